import PyProof.Rows.All
import KE.DataEq
import KE.SortData
import Wide.All
import OpenK.AllK
import Wide.FinOn
import HandS.ForMost
import HandS.IsInst
import HandS.Wide
import HandS.Style
import HandS.Zip
import HandS.Walk
import HandS.Deep
import HandS.Defaults
import HandS.WideBits
import HandS.TupAny
import HandS.Conv
import HandS.SetFor
import HandS.IterVal
import KE.KDictZip
import KE.DataFind
import PyProof.ReprBulk
import PyProof.FitsInt
import PySem.Challenge.RW_saidahead_k30_whole_shortest_draws_and_t
section
set_option linter.all false
/-! DLcore: the data layer, plain: values as data, the meaning of a def's body as a function of slots. -/
namespace DL
open PySem
abbrev D := PyData

/-- what a slot holds: data that nobody changes any more, a list of one's own, a list lent by the caller to be changed -/
inductive SV where
  | d (x : D) | own (xs : List D) | lent (xs : List D)
abbrev DSt := List (Option SV)
/-- an expression's value: data, a new list, the list in a slot -/
inductive Rv where
  | d (x : D) | tmp (xs : List D) | sl (i : Nat)
/-- what a def hands back -/
inductive Rt where
  | d (x : D) | own (xs : List D)
/-- what a def is handed -/
inductive Ar where
  | d (x : D) | m (xs : List D)
inductive Fl where
  | nx | bk | ct | rt (r : Rt)
abbrev DE := DSt → Option (Rv × DSt)
abbrev DT := DSt → Option (Bool × DSt)
abbrev DA := DSt → Option (List Rv × DSt)
abbrev DO := DSt → Option (Option Int × DSt)
abbrev DS := DSt → Option (Fl × DSt)
/-- a walked thing: its items -/
abbrev DI := DSt → Option (List D × DSt)
/-- a target: the item is stored -/
abbrev DG := D → DSt → Option DSt
abbrev Fn := List Ar → Option (Rt × List (List D))

def lookS : Option SV → Option D
  | some (.d x) => some x
  | some (.own xs) => some (.list xs)
  | some (.lent xs) => some (.list xs)
  | none => none
def look (st : DSt) : Rv → Option D
  | .d x => some x
  | .tmp xs => some (.list xs)
  | .sl i => lookS (st.getD i none)
def looks (st : DSt) : List Rv → Option (List D)
  | [] => some []
  | r :: rs => (look st r).bind fun x => (looks st rs).bind fun xs => some (x :: xs)
/-- a value given away: it is changed no more -/
def toD (st : DSt) : Rv → Option (D × DSt)
  | .d x => some (x, st)
  | .tmp xs => some (.list xs, st)
  | .sl i => match st.getD i none with
    | some (.d x) => some (x, st)
    | some (.own xs) => some (.list xs, st.set i (some (.d (.list xs))))
    | _ => none
def toDs (st : DSt) : List Rv → Option (List D × DSt)
  | [] => some ([], st)
  | r :: rs => (toD st r).bind fun p => (toDs p.2 rs).bind fun q => some (p.1 :: q.1, q.2)

/-! ### expressions -/
def dVar (i : Nat) : DE := fun st => match st.getD i none with
  | some (.d x) => some (.d x, st)
  | some (.own _) => some (.sl i, st)
  | some (.lent _) => some (.sl i, st)
  | none => none
def dC (x : D) : DE := fun st => some (.d x, st)
def dNil : DA := fun st => some ([], st)
def dCons (f : DE) (g : DA) : DA := fun st => (f st).bind fun p => (g p.2).bind fun q => some (p.1 :: q.1, q.2)
def dOp2 (op : D → D → Option Rv) (f g : DE) : DE := fun st => (f st).bind fun p => (g p.2).bind fun q =>
  (look q.2 p.1).bind fun x => (look q.2 q.1).bind fun y => (op x y).bind fun z => some (z, q.2)
def dOp1 (op : D → Option Rv) (f : DE) : DE := fun st => (f st).bind fun p => (look p.2 p.1).bind fun x => (op x).bind fun z => some (z, p.2)
def dCallB (op : List D → Option Rv) (f : DA) : DE := fun st => (f st).bind fun p => (looks p.2 p.1).bind fun xs => (op xs).bind fun z => some (z, p.2)
def dSlice (op : D → Option Int → Option Int → Option Rv) (f : DE) (lo hi : DO) : DE := fun st => (f st).bind fun p => (lo p.2).bind fun l => (hi l.2).bind fun h =>
  (look h.2 p.1).bind fun x => (op x l.1 h.1).bind fun z => some (z, h.2)
def dNoPart : DO := fun st => some (none, st)
def dPart (f : DE) : DO := fun st => (f st).bind fun p => match look p.2 p.1 with
  | some (.int i) => some (some i, p.2)
  | _ => none
def dList (f : DA) : DE := fun st => (f st).bind fun p => (toDs p.2 p.1).bind fun q => if q.1.length ≤ sizeLine then some (.tmp q.1, q.2) else none
def dTup (f : DA) : DE := fun st => (f st).bind fun p => (toDs p.2 p.1).bind fun q => if q.1.length ≤ sizeLine then some (.d (.tuple q.1), q.2) else none
def asB : D → Option Bool
  | .bool b => some b
  | _ => none
/-- a test whose value is a bool -/
def dTest (f : DE) : DT := fun st => (f st).bind fun p => match look p.2 p.1 with
  | some (.bool b) => some (b, p.2)
  | _ => none
def dNot (f : DT) : DT := fun st => (f st).bind fun p => some (!p.1, p.2)
def dAnd (f g : DT) : DT := fun st => (f st).bind fun p => if p.1 = true then g p.2 else some (false, p.2)
def dOr (f g : DT) : DT := fun st => (f st).bind fun p => if p.1 = true then some (true, p.2) else g p.2
/-- as values: all but the last are bools -/
def dAndV (f g : DE) : DE := fun st => (f st).bind fun p => match look p.2 p.1 with
  | some (.bool b) => if b = true then g p.2 else some (.d (.bool false), p.2)
  | _ => none
def dOrV (f g : DE) : DE := fun st => (f st).bind fun p => match look p.2 p.1 with
  | some (.bool b) => if b = true then some (.d (.bool true), p.2) else g p.2
  | _ => none
def dNotV (f : DE) : DE := fun st => (f st).bind fun p => match look p.2 p.1 with
  | some (.bool b) => some (.d (.bool (!b)), p.2)
  | _ => none
def dIf (t : DT) (f g : DE) : DE := fun st => (t st).bind fun p => if p.1 = true then f p.2 else g p.2

/-! ### calls of defs -/
/-- data arguments are given away; lent ones are slots -/
def marsh (st : DSt) : List (Rv × Bool) → Option (List (Sum D Nat) × DSt)
  | [] => some ([], st)
  | (r, false) :: rs => (toD st r).bind fun p => (marsh p.2 rs).bind fun q => some (.inl p.1 :: q.1, q.2)
  | (.sl i, true) :: rs => (marsh st rs).bind fun q => some (.inr i :: q.1, q.2)
  | (_, true) :: _ => none
def lentAt (st : DSt) : Sum D Nat → Option Ar
  | .inl x => some (.d x)
  | .inr i => match st.getD i none with
    | some (.own xs) => some (.m xs)
    | some (.lent xs) => some (.m xs)
    | _ => none
def lents (st : DSt) : List (Sum D Nat) → Option (List Ar)
  | [] => some []
  | a :: r => (lentAt st a).bind fun x => (lents st r).bind fun xs => some (x :: xs)
def lentIx : List (Sum D Nat) → List Nat
  | [] => []
  | .inl _ :: r => lentIx r
  | .inr i :: r => i :: lentIx r
def putBack (st : DSt) : List Nat → List (List D) → Option DSt
  | [], [] => some st
  | i :: is, xs :: r => match st.getD i none with
    | some (.own _) => putBack (st.set i (some (.own xs))) is r
    | some (.lent _) => putBack (st.set i (some (.lent xs))) is r
    | _ => none
  | _, _ => none
def rvOf : Rt → Rv
  | .d x => .d x
  | .own xs => .tmp xs
/-- f(e, ..): modes: which arguments are lent; more: the defaults -/
def dCall (g : Fn) (modes : List Bool) (more : List D) (f : DA) : DE := fun st => (f st).bind fun p =>
  (marsh p.2 (p.1.zip modes)).bind fun q => if (lentIx q.1).length ≤ 1 ∧ p.1.length = modes.length then
    (lents q.2 q.1).bind fun as => (g (as ++ more.map Ar.d)).bind fun r => (putBack q.2 (lentIx q.1) r.2).bind fun st' => some (rvOf r.1, st')
  else none
def permute {α : Type} (perm : List Nat) (xs : List α) : List α := perm.filterMap fun i => xs[i]?
/-- f(e, .., k = v, ..): n positional ones, m named ones, more: the defaults; perm brings them to the parameters' order; none is lent -/
def dCallK (g : Fn) (n m : Nat) (perm : List Nat) (more : List D) (f f2 : DA) : DE := fun st => (f st).bind fun p => (f2 p.2).bind fun p2 =>
  (toDs p2.2 (p.1 ++ p2.1)).bind fun q => if p.1.length = n ∧ p2.1.length = m then
    (g ((permute perm (q.1 ++ more)).map Ar.d)).bind fun r => some (rvOf r.1, q.2)
  else none

/-! ### walked things -/
def dIter (op : D → Option (List D)) (f : DE) : DI := fun st => (f st).bind fun p => (toD p.2 p.1).bind fun q => (op q.1).bind fun xs => some (xs, q.2)
def dIterA (op : List D → Option (List D)) (f : DA) : DI := fun st => (f st).bind fun p => (toDs p.2 p.1).bind fun q => (op q.1).bind fun xs => some (xs, q.2)

/-! ### targets -/
def setS (st : DSt) (i : Nat) (v : SV) : Option DSt := match st.getD i none with
  | some (.lent _) => none
  | _ => if i < st.length then some (st.set i (some v)) else none
def gName (i : Nat) : DG := fun x st => setS st i (.d x)
abbrev DGs := List D → DSt → Option DSt
def gNil : DGs := fun xs st => match xs with
  | [] => some st
  | _ => none
def gCons (g : DG) (h : DGs) : DGs := fun xs st => match xs with
  | x :: r => (g x st).bind fun st' => h r st'
  | _ => none
def gTup (n : Nat) (h : DGs) : DG := fun x st => match x with
  | .tuple xs => if xs.length = n then h xs st else none
  | _ => none

/-! ### comprehensions -/
def wipeD (st : DSt) : List Nat → DSt
  | [] => st
  | v :: vs => (wipeD st vs).set v none
/-- the block's own slots are empty ahead; a turn: the target, the tests, the element -/
def lcGo (g : DG) (t : DT) (e : DE) (vs : List Nat) : List D → DSt → Option (List D × DSt)
  | [], st => some ([], st)
  | x :: xs, st => (g x st).bind fun s1 => (t s1).bind fun p => if p.1 = true then
      (e p.2).bind fun q => (toD q.2 q.1).bind fun r => (lcGo g t e vs xs (wipeD r.2 vs)).bind fun w => some (r.1 :: w.1, w.2)
    else lcGo g t e vs xs (wipeD p.2 vs)
/-- the slots as they stood ahead -/
def refill (s0 st : DSt) : List Nat → DSt
  | [] => st
  | v :: vs => (refill s0 st vs).set v (s0.getD v none)
def dLc (it : DI) (g : DG) (t : DT) (e : DE) (vs : List Nat) : DE := fun st => (it st).bind fun p =>
  if p.1.length ≤ sizeLine ∧ vs.all (fun i => match p.2.getD i none with | none => true | some (.d _) => true | _ => false) = true then
    (lcGo g t e vs p.1 (wipeD p.2 vs)).bind fun q => some (.tmp q.1, refill p.2 q.2 vs)
  else none
def dTests : DT := fun st => some (true, st)
def dTests1 (t : DT) : DT := t

/-! ### statements -/
def dNext : DS := fun st => some (.nx, st)
def dSeq (f g : DS) : DS := fun st => (f st).bind fun p => match p.1 with
  | .nx => g p.2
  | _ => some p
def dBreak : DS := fun st => some (.bk, st)
def dCont : DS := fun st => some (.ct, st)
def dNever : DS := fun _ => none
/-- x = e -/
def dSet (i : Nat) (f : DE) : DS := fun st => (f st).bind fun p => match p.1 with
  | .tmp xs => (setS p.2 i (.own xs)).bind fun s => some (.nx, s)
  | r => (toD p.2 r).bind fun q => (setS q.2 i (.d q.1)).bind fun s => some (.nx, s)
/-- target = e, a tuple of targets -/
def dAsg (g : DG) (f : DE) : DS := fun st => (f st).bind fun p => (toD p.2 p.1).bind fun q => (g q.1 q.2).bind fun s => some (.nx, s)
/-- a, b = e1, e2: no tuple -/
def dPar (is : List Nat) (f : DA) : DS := fun st => (f st).bind fun p => (toDs p.2 p.1).bind fun q => (parGo is q.1 q.2).bind fun s => some (.nx, s)
where parGo : List Nat → List D → DSt → Option DSt
  | [], [], st => some st
  | i :: is, x :: xs, st => (setS st i (.d x)).bind fun s => parGo is xs s
  | _, _, _ => none
/-- x op= e -/
def dAug (op : D → D → Option Rv) (i : Nat) (f : DE) : DS := fun st => (dVar i st).bind fun v => (f v.2).bind fun p =>
  match v.1 with
  | .d x => (look p.2 p.1).bind fun y => match op x y with
    | some (.d z) => (setS p.2 i (.d z)).bind fun s => some (.nx, s)
    | _ => none
  | _ => none
/-- a list at a slot is changed -/
def putL (st : DSt) (i : Nat) (xs : List D) : Option DSt := match st.getD i none with
  | some (.own _) => some (st.set i (some (.own xs)))
  | some (.lent _) => some (st.set i (some (.lent xs)))
  | _ => none
def getL (st : DSt) (i : Nat) : Option (List D) := match st.getD i none with
  | some (.own xs) => some xs
  | some (.lent xs) => some xs
  | _ => none
/-- xs.append(e) -/
def dAppend (i : Nat) (f : DE) : DS := fun st => (getL st i).bind fun _ => (f st).bind fun p => (toD p.2 p.1).bind fun q => (getL q.2 i).bind fun xs =>
  if xs.length < sizeLine then (putL q.2 i (xs ++ [q.1])).bind fun s => some (.nx, s) else none
def ixAt {α : Type} (xs : List α) (i : Int) : Option Nat := if 0 ≤ i then (if i < xs.length then some i.toNat else none) else if -(xs.length : Int) ≤ i then some (i + xs.length).toNat else none
/-- xs[k] = e -/
def dSetIx (i : Nat) (k f : DE) : DS := fun st => (f st).bind fun p => (toD p.2 p.1).bind fun q => (getL q.2 i).bind fun _ => (k q.2).bind fun r => match look r.2 r.1 with
  | some (.int j) => (getL r.2 i).bind fun xs => (ixAt xs j).bind fun n => (putL r.2 i (xs.set n q.1)).bind fun s => some (.nx, s)
  | _ => none
/-- xs[k] op= e -/
def dAugIx (op : D → D → Option Rv) (i : Nat) (k f : DE) : DS := fun st => (getL st i).bind fun _ => (k st).bind fun r => match look r.2 r.1 with
  | some (.int j) => (getL r.2 i).bind fun xs => (ixAt xs j).bind fun n => (xs[n]?).bind fun x => (f r.2).bind fun p => (look p.2 p.1).bind fun y =>
    match op x y with
    | some (.d z) => (getL p.2 i).bind fun ys => (ixAt ys j).bind fun n' => (putL p.2 i (ys.set n' z)).bind fun s => some (.nx, s)
    | _ => none
  | _ => none
def dDrop (f : DE) : DS := fun st => (f st).bind fun p => some (.nx, p.2)
def dRet (f : DE) : DS := fun st => (f st).bind fun p => match p.1 with
  | .d x => some (.rt (.d x), p.2)
  | .tmp xs => some (.rt (.own xs), p.2)
  | .sl i => match p.2.getD i none with
    | some (.d x) => some (.rt (.d x), p.2)
    | some (.own xs) => some (.rt (.own xs), p.2.set i none)
    | _ => none
def dRetN : DS := fun st => some (.rt (.d .none), st)
def dIfS (t : DT) (f g : DS) : DS := fun st => (t st).bind fun p => if p.1 = true then f p.2 else g p.2
def forGo (g : DG) (b : DS) : List D → DSt → Option (Fl × DSt)
  | [], st => some (.nx, st)
  | x :: xs, st => (g x st).bind fun s => (b s).bind fun p => match p.1 with
    | .nx => forGo g b xs p.2
    | .ct => forGo g b xs p.2
    | .bk => some (.nx, p.2)
    | .rt r => some (.rt r, p.2)
def dFor (it : DI) (g : DG) (b : DS) : DS := fun st => (it st).bind fun p => forGo g b p.1 p.2
def whileN (t : DT) (b : DS) : Nat → DSt → Option (Fl × DSt)
  | 0, _ => none
  | n + 1, st => (t st).bind fun q => if q.1 = true then (b q.2).bind fun p => match p.1 with
      | .nx => whileN t b n p.2
      | .ct => whileN t b n p.2
      | .bk => some (.nx, p.2)
      | .rt r => some (.rt r, p.2)
    else some (.nx, q.2)
open Classical in
noncomputable def dWhile (t : DT) (b : DS) : DS := fun st => if h : ∃ n r, whileN t b n st = some r then some (choose (choose_spec h)) else none

/-! ### a def -/
def arS : Ar → SV
  | .d x => .d x
  | .m xs => .lent xs
def startD (n : Nat) (as : List Ar) : DSt := as.map (fun a => some (arS a)) ++ List.replicate (n - as.length) none
/-- the lent lists behind the run -/
def outsGo (st : DSt) : List Ar → Nat → Option (List (List D))
  | [], _ => some []
  | .d _ :: r, i => outsGo st r (i + 1)
  | .m _ :: r, i => match st.getD i none with
    | some (.lent xs) => (outsGo st r (i + 1)).bind fun o => some (xs :: o)
    | _ => none
def run (n : Nat) (b : DS) : Fn := fun as => (b (startD n as)).bind fun p => (outsGo p.2 as 0).bind fun o => match p.1 with
  | .nx => some (.d .none, o)
  | .rt r => some (r, o)
  | _ => none

/-! ### what the operators make -/
def opAdd : D → D → Option Rv
  | .int i, .int j => some (.d (.int (i + j)))
  | .str a, .str b => if a.length + b.length ≤ sizeLine then some (.d (.str (a ++ b))) else none
  | .list xs, .list ys => if xs.length + ys.length ≤ sizeLine then some (.tmp (xs ++ ys)) else none
  | _, _ => none
/-- in place -/
def opAddI : D → D → Option Rv
  | .int i, .int j => some (.d (.int (i + j)))
  | _, _ => none
def opSub : D → D → Option Rv
  | .int i, .int j => some (.d (.int (i - j)))
  | _, _ => none
def opMul : D → D → Option Rv
  | .int i, .int j => if i.natAbs.log2 + j.natAbs.log2 < 1000000 then some (.d (.int (i * j))) else none
  | .list xs, .int k => if -(2 ^ 63) ≤ k ∧ k < 2 ^ 63 ∧ xs.length * k.toNat ≤ sizeLine then some (.tmp (List.replicate k.toNat xs).flatten) else none
  | _, _ => none
def opDiv : D → D → Option Rv
  | .int i, .int j => if 0 < j ∧ j.natAbs.log2 < 9000 then some (.d (.int (i / j))) else none
  | _, _ => none
def opMod : D → D → Option Rv
  | .int i, .int j => if 0 < j then some (.d (.int (i % j))) else none
  | _, _ => none
def opPow : D → D → Option Rv
  | .int i, .int j => if 0 ≤ j ∧ j ≤ 1000000 ∧ i.natAbs < 2 ^ 64 then some (.d (.int (i ^ j.toNat))) else none
  | _, _ => none
def opNeg : D → Option Rv
  | .int i => some (.d (.int (-i)))
  | _ => none
def opCmp (p : Int → Int → Bool) : D → D → Option Rv
  | .int i, .int j => some (.d (.bool (p i j)))
  | _, _ => none
def opLt : D → D → Option Rv := opCmp fun i j => decide (i < j)
def opLe : D → D → Option Rv := opCmp fun i j => decide (i ≤ j)
def opGt : D → D → Option Rv := opCmp fun i j => decide (j < i)
def opGe : D → D → Option Rv := opCmp fun i j => decide (j ≤ i)
/-- no dict within, not too deep: what == takes -/
def flat (x : D) : Bool := x.plain && decide (x.depth ≤ 64)
def opEq (x y : D) : Option Rv := if flat x = true ∧ flat y = true then some (.d (.bool (PyData.eqv x y))) else none
def opNe (x y : D) : Option Rv := if flat x = true ∧ flat y = true then some (.d (.bool (!PyData.eqv x y))) else none
/-- is, with None or a bool at the right -/
def isV : D → D → Option Bool
  | .none, .none => some true
  | _, .none => some false
  | .bool a, .bool b => some (a == b)
  | _, .bool _ => some false
  | _, _ => none
def opIs (x y : D) : Option Rv := (isV x y).bind fun b => some (.d (.bool b))
def opIsNot (x y : D) : Option Rv := (isV x y).bind fun b => some (.d (.bool (!b)))
def atomD : D → Bool
  | .none => true
  | .bool _ => true
  | .int _ => true
  | .str _ => true
  | _ => false
/-- x in ys, all of them atoms -/
def opInB (x : D) : D → Option Bool
  | .list ys => if atomD x = true ∧ ys.all atomD = true then some (ys.any fun y => PyData.eqv y x) else none
  | .tuple ys => if atomD x = true ∧ ys.all atomD = true then some (ys.any fun y => PyData.eqv y x) else none
  | _ => none
def opIn (x y : D) : Option Rv := (opInB x y).bind fun b => some (.d (.bool b))
def opNotIn (x y : D) : Option Rv := (opInB x y).bind fun b => some (.d (.bool (!b)))
def opIx : D → D → Option Rv
  | .list xs, .int i => (ixAt xs i).bind fun n => (xs[n]?).bind fun x => some (.d x)
  | .tuple xs, .int i => (ixAt xs i).bind fun n => (xs[n]?).bind fun x => some (.d x)
  | .str z, .int i => if z.length ≤ sizeLine then (ixAt z.cps.toList i).bind fun n => (z.cps.toList[n]?).bind fun c => some (.d (.str ⟨#[c]⟩)) else none
  | _, _ => none
def cutAt (n d : Nat) : Option Int → Nat
  | none => d
  | some v => if v < 0 then (v + (n : Int)).toNat else min v.toNat n
def cutD {α : Type} (xs : List α) (lo hi : Option Int) : List α := (xs.drop (cutAt xs.length 0 lo)).take (cutAt xs.length xs.length hi - cutAt xs.length 0 lo)
def opSlice : D → Option Int → Option Int → Option Rv
  | .list xs, lo, hi => some (.tmp (cutD xs lo hi))
  | _, _, _ => none
def opRev : D → Option Rv
  | .list xs => some (.tmp xs.reverse)
  | _ => none

/-! ### built-in calls -/
def bLen : List D → Option Rv
  | [.list xs] => some (.d (.int xs.length))
  | [.tuple xs] => some (.d (.int xs.length))
  | [.str z] => if z.length ≤ sizeLine then some (.d (.int z.length)) else none
  | _ => none
def bInt : List D → Option Rv
  | [.int i] => some (.d (.int i))
  | [.bool b] => some (.d (.int (if b then 1 else 0)))
  | _ => none
def bStr : List D → Option Rv
  | [.int i] => if i.natAbs.log2 < 1920 then some (.d (.str (Str.ofString (toString i)))) else none
  | _ => none
def dictRepr : D → Option Rv
  | .dict [] => some (.d (.str (PyData.shown (.dict []))))
  | _ => none
def bRepr : List D → Option Rv
  | [x] => if x.hasDict = false ∧ x.showable = true ∧ x.depth ≤ 40 ∧ x.shown.length ≤ sizeLine then some (.d (.str x.shown)) else dictRepr x
  | _ => none
def boolsOf : List D → Option (List Bool)
  | [] => some []
  | .bool b :: r => (boolsOf r).bind fun bs => some (b :: bs)
  | _ => none
def intsOf : List D → Option (List Int)
  | [] => some []
  | .int i :: r => (intsOf r).bind fun is => some (i :: is)
  | _ => none
def bAll : List D → Option Rv
  | [.list xs] => (boolsOf xs).bind fun bs => some (.d (.bool (bs.all id)))
  | _ => none
def bAny : List D → Option Rv
  | [.list xs] => (boolsOf xs).bind fun bs => some (.d (.bool (bs.any id)))
  | _ => none
def bSum : List D → Option Rv
  | [.list xs] => (intsOf xs).bind fun is => some (.d (.int is.sum))
  | _ => none
def bList : List D → Option Rv
  | [.list xs] => some (.tmp xs)
  | [.tuple xs] => some (.tmp xs)
  | _ => none
/-- the built-in types of data -/
def tyName : D → String
  | .none => "NoneType"
  | .bool _ => "bool"
  | .int _ => "int"
  | .str _ => "str"
  | .list _ => "list"
  | .tuple _ => "tuple"
  | .dict _ => "dict"
def isTy (x : D) (T : String) : Bool := tyName x == T || (T == "int" && tyName x == "bool")
def bIsi (T : String) (x : D) : Option Rv := some (.d (.bool (isTy x T)))
def bIsi2 (T U : String) (x : D) : Option Rv := some (.d (.bool (isTy x T || isTy x U)))
/-- range -/
def iRange1 : List D → Option (List D)
  | [.int n] => if -(2 ^ 62) ≤ n ∧ n < 2 ^ 62 then some ((List.range n.toNat).map fun i => .int (0 + (i : Nat))) else none
  | _ => none
def iRange2 : List D → Option (List D)
  | [.int a, .int b] => if -(2 ^ 62) ≤ a ∧ a < 2 ^ 62 ∧ -(2 ^ 62) ≤ b ∧ b < 2 ^ 62 then some ((List.range (b - a).toNat).map fun i => .int (a + (i : Nat))) else none
  | _ => none
def iList : D → Option (List D)
  | .list xs => some xs
  | _ => none
def iTup : D → Option (List D)
  | .tuple xs => some xs
  | _ => none
def iSeq : D → Option (List D)
  | .list xs => some xs
  | .tuple xs => some xs
  | _ => none
def iZip : List D → Option (List D)
  | [.list xs, .list ys] => some ((xs.zip ys).map fun p => .tuple [p.1, p.2])
  | [.tuple xs, .tuple ys] => some ((xs.zip ys).map fun p => .tuple [p.1, p.2])
  | _ => none
def iEnum : List D → Option (List D)
  | [.list xs] => some (xs.zipIdx.map fun p => .tuple [.int (p.2 : Nat), p.1])
  | _ => none
/-! ### further ones -/
/-- a op b op' c -/
def dChain (op op' : D → D → Option Rv) (f g h : DE) : DE := fun st => (f st).bind fun p => (g p.2).bind fun q => (look q.2 p.1).bind fun x => (look q.2 q.1).bind fun y => (op x y).bind fun z => match z with
  | .d (.bool true) => (h q.2).bind fun w => (look w.2 q.1).bind fun y' => (look w.2 w.1).bind fun u => (op' y' u).bind fun z' => some (z', w.2)
  | .d (.bool false) => some (.d (.bool false), q.2)
  | _ => none
def bMax2 : List D → Option Rv
  | [.int i, .int j] => some (.d (.int (if j > i then j else i)))
  | _ => none
def bMin2 : List D → Option Rv
  | [.int i, .int j] => some (.d (.int (if j < i then j else i)))
  | _ => none
/-- n.bit_length() -/
def opBits : D → Option Rv
  | .int i => some (.d (.int (Builtin.Int.intBits i : Nat)))
  | _ => none
def opAddT : D → D → Option Rv
  | .tuple xs, .tuple ys => if xs.length + ys.length ≤ sizeLine then some (.d (.tuple (xs ++ ys))) else none
  | _, _ => none
def opSliceT : D → Option Int → Option Int → Option Rv
  | .tuple xs, lo, hi => some (.d (.tuple (cutD xs lo hi)))
  | _, _, _ => none
def bTuple : List D → Option Rv
  | [.list xs] => some (.d (.tuple xs))
  | [.tuple xs] => some (.d (.tuple xs))
  | _ => none
/-- every list of one's own or of the caller's, looked at as data -/
def fz : Option SV → Option SV
  | some (.d x) => some (.d x)
  | some (.own xs) => some (.d (.list xs))
  | some (.lent xs) => some (.d (.list xs))
  | none => none
def freeze (st : DSt) : DSt := st.map fz
/-- the lists are handed on for this expression alone; what comes is an atom -/
def dBorrow (f : DE) : DE := fun st => (f (freeze st)).bind fun p => match p.1 with
  | .d x => if atomD x = true then some (.d x, st) else none
  | _ => none
def dBorrowT (f : DT) : DT := fun st => (f (freeze st)).bind fun p => some (p.1, st)
/-- i ** j, any base -/
def opPowW : D → D → Option Rv
  | .int i, .int j => if 0 ≤ j ∧ (Builtin.Int.intBits i : Int) * j ≤ 2 ^ 27 then some (.d (.int (i ^ j.toNat))) else none
  | _, _ => none
def dIfT (t f g : DT) : DT := fun st => (t st).bind fun p => if p.1 = true then f p.2 else g p.2
/-- x, ys = e, e2: e2 gives a new list, which becomes one's own -/
def dAsgO (i j : Nat) (f g : DE) : DS := fun st => (f st).bind fun p => (g p.2).bind fun q => match p.1, q.1 with
  | .d x, .tmp ys => (setS q.2 j (.own ys)).bind fun s => (setS s i (.d x)).bind fun s' => some (.nx, s')
  | _, _ => none
/-- {} -/
def dDict0 : DE := fun st => some (.d (.dict []), st)
def maxOf : List Int → Option Int
  | [] => none
  | x :: r => some (match maxOf r with | some m => if x > m then x else m | none => x)
def minOf : List Int → Option Int
  | [] => none
  | x :: r => some (match minOf r with | some m => if x < m then x else m | none => x)
/-- max(xs), min(xs) of ints -/
def bMaxL : List D → Option Rv
  | [.list xs] => (intsOf xs).bind fun is => (maxOf is).bind fun m => some (.d (.int m))
  | _ => none
def bMinL : List D → Option Rv
  | [.list xs] => (intsOf xs).bind fun is => (minOf is).bind fun m => some (.d (.int m))
  | _ => none
/-- f(e, ..): the first argument is a new list, lent for this call alone -/
def dCallT (g : Fn) (n : Nat) (more : List D) (f : DE) (h : DA) : DE := fun st => (f st).bind fun p => match p.1 with
  | .tmp xs => (h p.2).bind fun q => (toDs q.2 q.1).bind fun w => if q.1.length = n then
      (g (.m xs :: (w.1 ++ more).map Ar.d)).bind fun r => some (rvOf r.1, w.2)
    else none
  | _ => none
/-- ys, x, .. = e, e2, ..: the first one gives a new list, which becomes one's own -/
def dParS (i : Nat) (is : List Nat) (f : DE) (h : DA) : DS := fun st => (f st).bind fun p => match p.1 with
  | .tmp xs => (h p.2).bind fun q => (toDs q.2 q.1).bind fun w => (setS w.2 i (.own xs)).bind fun s => (dPar.parGo is w.1 s).bind fun s' => some (.nx, s')
  | _ => none
/-- what sorted takes: data of one shape -/
def headed : D → Bool
  | .tuple (_ :: _) => true
  | _ => false
def other : D → Bool
  | .none => false
  | .tuple _ => false
  | _ => true
def sortable (xs : List D) : Bool := xs.all (fun d => xs.all fun d' => PySem.W.alike d d') && (xs.all headed || xs.all other) && xs.all (fun d => !d.hasDict && decide (d.depth ≤ 30))
noncomputable def sortD (xs : List D) : List D := xs.mergeSort (PySem.W.dataLe false id)
noncomputable def bSorted : List D → Option Rv
  | [.list xs] => if sortable xs = true then some (.tmp (sortD xs)) else none
  | _ => none
/-- x, ys, z.. = e, e2, e3..: e2 gives a new list, which becomes one's own; e gives data -/
def dParQ (i j : Nat) (is : List Nat) (f g : DE) (h : DA) : DS := fun st => (f st).bind fun p => (g p.2).bind fun q => match p.1, q.1 with
  | .d x, .tmp ys => (h q.2).bind fun u => (toDs u.2 u.1).bind fun w => (setS w.2 i (.d x)).bind fun s1 => (setS s1 j (.own ys)).bind fun s => (dPar.parGo is w.1 s).bind fun s' => some (.nx, s')
  | _, _ => none
/-- list(range(n)) -/
def dListR (f : DE) : DE := fun st => (f st).bind fun p => match look p.2 p.1 with
  | some (.int n) => if n ≤ 16777216 ∧ -(2 ^ 62) ≤ n then some (.tmp ((List.range n.toNat).map fun i => .int (0 + (i : Nat))), p.2) else none
  | _ => none
def removeI (k : Int) : List Int → Option (List Int)
  | [] => none
  | x :: r => if x = k then some r else (removeI k r).bind fun s => some (x :: s)
/-- xs.remove(e), ints -/
def dRemove (i : Nat) (f : DE) : DS := fun st => (getL st i).bind fun _ => (f st).bind fun p => (toD p.2 p.1).bind fun q => match q.1 with
  | .int k => (getL q.2 i).bind fun xs => (intsOf xs).bind fun is => (removeI k is).bind fun r => (putL q.2 i (r.map .int)).bind fun s => some (.nx, s)
  | _ => none
open Classical in
/-- for x in ys: .., ys a list of one's own that the body leaves alone -/
noncomputable def forGoB (i : Nat) (full : List D) (g : DG) (b : DS) : List D → DSt → Option (Fl × DSt)
  | [], st => if getL st i = some full then some (.nx, st) else none
  | x :: xs, st => if getL st i = some full then (g x st).bind fun s => (b s).bind fun p => match p.1 with
      | .nx => forGoB i full g b xs p.2
      | _ => none
    else none
noncomputable def dForB (i : Nat) (g : DG) (b : DS) : DS := fun st => (getL st i).bind fun xs => forGoB i xs g b xs st
/-- xs, ys, z.. = e, e2, e3..: both give new lists -/
def dParW (i j : Nat) (is : List Nat) (f g : DE) (h : DA) : DS := fun st => (f st).bind fun p => (g p.2).bind fun q => match p.1, q.1 with
  | .tmp xs, .tmp ys => (h q.2).bind fun u => (toDs u.2 u.1).bind fun w => (setS w.2 i (.own xs)).bind fun s1 => (setS s1 j (.own ys)).bind fun s => (dPar.parGo is w.1 s).bind fun s' => some (.nx, s')
  | _, _ => none
/-- i << j, i >> j -/
def opShl : D → D → Option Rv
  | .int i, .int j => if 0 ≤ j ∧ j ≤ 1000000 ∧ i.natAbs < 2 ^ 64 then some (.d (.int (i * 2 ^ j.toNat))) else none
  | _, _ => none
def opShr : D → D → Option Rv
  | .int i, .int j => if 0 ≤ j then some (.d (.int (i / 2 ^ j.toNat))) else none
  | _, _ => none
/-- zip of two lists -/
def iZipL : List D → Option (List D)
  | [.list xs, .list ys] => some ((xs.zip ys).map fun p => .tuple [p.1, p.2])
  | _ => none
/-- list(zip(a, b)) -/
def dListZip (f : DA) : DE := fun st => (f st).bind fun p => (toDs p.2 p.1).bind fun q => (iZipL q.1).bind fun xs => some (.tmp xs, q.2)
/-- x = zip(a, b); return [e for .. in x]: x is met there first -/
def dZipRet (i : Nat) (fr : DA) (g : DG) (t : DT) (e : DE) (vs : List Nat) : DS := fun st => (dIterA iZipL fr st).bind fun p =>
  if i < p.2.length then match p.2.getD i none with
    | none => dRet (dLc (fun s => some (p.1, s)) g t e vs) p.2
    | _ => none
  else none
/-! ### lists of data: in, index, count, pop, remove -/
def inD (x : D) : D → Option Bool
  | .list ys => if flat x = true ∧ flat (.list ys) = true then some (ys.any fun y => PyData.eqv y x) else none
  | .tuple ys => if flat x = true ∧ flat (.tuple ys) = true then some (ys.any fun y => PyData.eqv y x) else none
  | _ => none
def opInD (x y : D) : Option Rv := (inD x y).bind fun b => some (.d (.bool b))
def opNotInD (x y : D) : Option Rv := (inD x y).bind fun b => some (.d (.bool (!b)))
def opIndex : D → D → Option Rv
  | .list ys, x => if flat x = true ∧ flat (.list ys) = true then (ys.findIdx? fun y => PyData.eqv y x).bind fun j => some (.d (.int (j : Nat))) else none
  | _, _ => none
def opCount : D → D → Option Rv
  | .list ys, x => if flat x = true ∧ flat (.list ys) = true then some (.d (.int (ys.countP fun y => PyData.eqv y x : Nat))) else none
  | _, _ => none
def isLst : D → Bool
  | .list _ => true
  | _ => false
/-- xs.method(e), xs a list that is looked at -/
def dMethL (op : D → D → Option Rv) (f g : DE) : DE := fun st => (f st).bind fun p => (look p.2 p.1).bind fun x0 => if isLst x0 = true then
    (g p.2).bind fun q => (look q.2 p.1).bind fun x => (look q.2 q.1).bind fun y => (op x y).bind fun z => some (z, q.2)
  else none
/-- xs.pop(k), xs a list of one's own -/
def dPop (i : Nat) (k : DE) : DE := fun st => (getL st i).bind fun _ => (k st).bind fun r => match look r.2 r.1 with
  | some (.int j) => if -(2 ^ 63) ≤ j ∧ j < 2 ^ 63 then (getL r.2 i).bind fun xs => (ixAt xs j).bind fun n => (xs[n]?).bind fun x => (putL r.2 i (xs.eraseIdx n)).bind fun s => some (.d x, s) else none
  | _ => none
/-- xs.remove(e), data -/
def dRemoveD (i : Nat) (f : DE) : DS := fun st => (getL st i).bind fun _ => (f st).bind fun p => (toD p.2 p.1).bind fun q => (getL q.2 i).bind fun xs =>
  if flat q.1 = true ∧ flat (.list xs) = true then (xs.findIdx? fun y => PyData.eqv y q.1).bind fun j => (putL q.2 i (xs.eraseIdx j)).bind fun s => some (.nx, s) else none
end DL
end

section
set_option Elab.async false
set_option linter.all false
set_option maxRecDepth 100000
set_option maxHeartbeats 1000000
/-! DLsnd: the data layer over the hand layer: a reading is met by what the plain function of slots says. -/
namespace DL
open PySem PySem.Spec PyProof.Rows L2

/-! ### data in the heap -/
/-- a list that nobody changes: given away (F), locked, or of the written part -/
def FL (K : PySem.W.Frag) (F : Addr → Prop) (H : Hp) (a : Addr) (xs : List V) : Prop :=
  (F a ∧ H a = some (.lst xs)) ∨ (∃ o, H a = some (.frz o (.lst xs))) ∨ SqL K (fun _ => none) a xs
theorem sqK {K : PySem.W.Frag} {H : Hp} {a : Addr} {xs : List V} (h : SqL K (fun _ => none) a xs) : SqL K H a xs := by
  rcases h with (h | ⟨o, h⟩) | h
  · cases h
  · cases h
  · exact .inr h
theorem FL.sql {K : PySem.W.Frag} {F : Addr → Prop} {H : Hp} {a : Addr} {xs : List V} (h : FL K F H a xs) : SqL K H a xs := by
  rcases h with ⟨_, h⟩ | ⟨o, h⟩ | h
  · exact .inl (.inl h)
  · exact .inl (.inr ⟨o, h⟩)
  · exact sqK h
/-- what never changes, once it is there: a tuple; an empty dict -/
def STD (K : PySem.W.Frag) (H : Hp) (a : Addr) : Option (List V) → Prop
  | some xs => SqT K H a xs
  | none => H a = some (.dK [])
mutual
inductive Rp (K : PySem.W.Frag) (F : Addr → Prop) (H : Hp) : V → PyData → Prop
  | non : Rp K F H .non .none
  | bl (b : Bool) : Rp K F H (.bl b) (.bool b)
  | int (i : Int) : Rp K F H (.int i) (.int i)
  | str (x : Str) : Rp K F H (.str x) (.str x)
  | lst {a : Addr} {xs : List V} {ds : List PyData} : FL K F H a xs → RpAll K F H xs ds → Rp K F H (.ref a) (.list ds)
  | tup {a : Addr} {xs : List V} {ds : List PyData} : SqT K H a xs → RpAll K F H xs ds → Rp K F H (.ref a) (.tuple ds)
  | dic {a : Addr} : H a = some (.dK []) → Rp K F H (.ref a) (.dict [])
inductive RpAll (K : PySem.W.Frag) (F : Addr → Prop) (H : Hp) : List V → List PyData → Prop
  | nil : RpAll K F H [] []
  | cons {v : V} {vs : List V} {d : PyData} {ds : List PyData} : Rp K F H v d → RpAll K F H vs ds → RpAll K F H (v :: vs) (d :: ds)
end
section
variable {K : PySem.W.Frag} {F F' : Addr → Prop} {H H' : Hp}
mutual
theorem Rp.mono (h1 : ∀ a xs, FL K F H a xs → FL K F' H' a xs) (h2 : ∀ a xs, STD K H a xs → STD K H' a xs) : ∀ {v : V} {d : PyData}, Rp K F H v d → Rp K F' H' v d
  | _, _, .non => .non
  | _, _, .bl b => .bl b
  | _, _, .int i => .int i
  | _, _, .str x => .str x
  | _, _, .lst h hs => .lst (h1 _ _ h) (RpAll.mono h1 h2 hs)
  | _, _, .tup h hs => .tup (h2 _ (some _) h) (RpAll.mono h1 h2 hs)
  | _, _, .dic h => .dic (h2 _ none h)
theorem RpAll.mono (h1 : ∀ a xs, FL K F H a xs → FL K F' H' a xs) (h2 : ∀ a xs, STD K H a xs → STD K H' a xs) : ∀ {vs : List V} {ds : List PyData}, RpAll K F H vs ds → RpAll K F' H' vs ds
  | _, _, .nil => .nil
  | _, _, .cons a b => .cons (Rp.mono h1 h2 a) (RpAll.mono h1 h2 b)
end
mutual
theorem Rp.dp : ∀ {v : V} {d : PyData}, Rp K F H v d → d.hasDict = false → Dp K H v d
  | _, _, .non, _ => .non
  | _, _, .bl b, _ => .bl b
  | _, _, .int i, _ => .int i
  | _, _, .str x, _ => .str x
  | _, _, .lst h hs, n => .lst h.sql (RpAll.dp hs (by simpa [PyData.hasDict] using n))
  | _, _, .tup h hs, n => .tup h (RpAll.dp hs (by simpa [PyData.hasDict] using n))
  | _, _, .dic _, n => by simp [PyData.hasDict] at n
theorem RpAll.dp : ∀ {vs : List V} {ds : List PyData}, RpAll K F H vs ds → PyData.hasDictAll ds = false → DpAll K H vs ds
  | _, _, .nil, _ => .nil
  | _, _, .cons a b, n => .cons (Rp.dp a (by simp only [PyData.hasDictAll, Bool.or_eq_false_iff] at n; exact n.1)) (RpAll.dp b (by simp only [PyData.hasDictAll, Bool.or_eq_false_iff] at n; exact n.2))
end
theorem RpAll.length : ∀ {vs : List V} {ds : List PyData}, RpAll K F H vs ds → vs.length = ds.length
  | _, _, .nil => rfl
  | _, _, .cons _ b => congrArg (· + 1) (RpAll.length b)
theorem RpAll.get : ∀ {vs : List V} {ds : List PyData} {i : Nat} {d : PyData}, RpAll K F H vs ds → ds[i]? = some d → ∃ v, vs[i]? = some v ∧ Rp K F H v d
  | _, _, _, _, .nil, e => by simp at e
  | _, _, 0, _, .cons a _, e => by
    simp at e
    subst e
    exact ⟨_, rfl, a⟩
  | _, _, i + 1, _, .cons _ b, e => by
    obtain ⟨v, h1, h2⟩ := RpAll.get (i := i) b (by simpa using e)
    exact ⟨v, by simpa using h1, h2⟩
theorem RpAll.got : ∀ {vs : List V} {ds : List PyData} {i : Nat} {v : V}, RpAll K F H vs ds → vs[i]? = some v → ∃ d, ds[i]? = some d ∧ Rp K F H v d
  | _, _, _, _, .nil, e => by simp at e
  | _, _, 0, _, .cons a _, e => by
    simp at e
    subst e
    exact ⟨_, rfl, a⟩
  | _, _, i + 1, _, .cons _ b, e => by
    obtain ⟨v, h1, h2⟩ := RpAll.got (i := i) b (by simpa using e)
    exact ⟨v, by simpa using h1, h2⟩
theorem RpAll.append : ∀ {vs ws : List V} {ds es : List PyData}, RpAll K F H vs ds → RpAll K F H ws es → RpAll K F H (vs ++ ws) (ds ++ es)
  | _, _, _, _, .nil, h => h
  | _, _, _, _, .cons a b, h => .cons a (RpAll.append b h)
theorem RpAll.drop : ∀ {vs : List V} {ds : List PyData} (n : Nat), RpAll K F H vs ds → RpAll K F H (vs.drop n) (ds.drop n)
  | _, _, 0, h => h
  | _, _, _ + 1, .nil => .nil
  | _, _, n + 1, .cons _ b => RpAll.drop n b
theorem RpAll.take : ∀ {vs : List V} {ds : List PyData} (n : Nat), RpAll K F H vs ds → RpAll K F H (vs.take n) (ds.take n)
  | _, _, 0, _ => .nil
  | _, _, _ + 1, .nil => .nil
  | _, _, n + 1, .cons a b => .cons a (RpAll.take n b)
theorem RpAll.set {x : V} {d : PyData} (r : Rp K F H x d) : ∀ {vs : List V} {ds : List PyData} (i : Nat), RpAll K F H vs ds → RpAll K F H (vs.set i x) (ds.set i d)
  | _, _, _, .nil => .nil
  | _, _, 0, .cons _ b => .cons r b
  | _, _, i + 1, .cons a b => .cons a (RpAll.set r i b)
theorem RpAll.reverse {vs : List V} {ds : List PyData} (h : RpAll K F H vs ds) : RpAll K F H vs.reverse ds.reverse := by
  induction h using RpAll.rec (motive_1 := fun _ _ _ => True) with
  | non | bl | int | str | lst | tup | dic => trivial
  | nil => exact .nil
  | cons a b iha ihb => rw [List.reverse_cons, List.reverse_cons]; exact ihb.append (.cons a .nil)
theorem RpAll.rep {vs : List V} {ds : List PyData} (h : RpAll K F H vs ds) : ∀ k : Nat, RpAll K F H (List.replicate k vs).flatten (List.replicate k ds).flatten
  | 0 => .nil
  | k + 1 => by
    rw [List.replicate_succ, List.replicate_succ, List.flatten_cons, List.flatten_cons]
    exact h.append (h.rep k)
theorem RpAll.snoc {vs : List V} {ds : List PyData} {v : V} {d : PyData} (h : RpAll K F H vs ds) (r : Rp K F H v d) : RpAll K F H (vs ++ [v]) (ds ++ [d]) := h.append (.cons r .nil)
end
theorem sqT_up {K : PySem.W.Frag} {H H' : Hp} (h : ∀ b u, H b = some u → (∀ xs, u ≠ .lst xs) → H' b = some u) {a : Addr} {xs : List V} (q : SqT K H a xs) : SqT K H' a xs := by
  rcases q with (q | ⟨o, q⟩) | q
  · exact .inl (.inl (h _ _ q fun _ z => by cases z))
  · exact .inl (.inr ⟨o, h _ _ q fun _ z => by cases z⟩)
  · exact .inr q

theorem stD_up {K : PySem.W.Frag} {H H' : Hp} (h : ∀ b u, H b = some u → (∀ xs, u ≠ .lst xs) → H' b = some u) {a : Addr} : ∀ {o : Option (List V)}, STD K H a o → STD K H' a o
  | some _, q => sqT_up h q
  | none, q => h _ _ q fun _ z => by cases z

/-! ### the slots and the heap -/
def IsOwn (st : DSt) (i : Nat) : Prop := ∃ xs, st.getD i none = some (.own xs) ∨ st.getD i none = some (.lent xs)
def OwnAt (st : DSt) (σ : L2.St) (p : Addr) : Prop := ∃ i, IsOwn st i ∧ σ[i]? = some (some (.ref p))
/-- H0: the heap at the def's entry; M: where the lent lists are -/
structure Sim (K : PySem.W.Frag) (H0 : Hp) (M : Nat → Option Addr) (st : DSt) (σ : L2.St) (F : Addr → Prop) (H : Hp) : Prop where
  len : σ.length = st.length
  dat : ∀ i x, st.getD i none = some (.d x) → ∃ v, σ[i]? = some (some v) ∧ Rp K F H v x
  own : ∀ i xs, st.getD i none = some (.own xs) → ∃ p vs, σ[i]? = some (some (.ref p)) ∧ H p = some (.lst vs) ∧ RpAll K F H vs xs ∧ ¬ F p ∧ H0 p = none
  lent : ∀ i xs, st.getD i none = some (.lent xs) → ∃ p vs, M i = some p ∧ σ[i]? = some (some (.ref p)) ∧ H p = some (.lst vs) ∧ RpAll K F H vs xs ∧ ¬ F p
  lentE : ∀ i p, M i = some p → ∃ xs, st.getD i none = some (.lent xs)
  lent0 : ∀ i p, M i = some p → H0 p ≠ none
  inj : ∀ i j p, IsOwn st i → IsOwn st j → σ[i]? = some (some (.ref p)) → σ[j]? = some (some (.ref p)) → i = j
  frz : ∀ a, F a → ∃ xs, H a = some (.lst xs)
  base : ∀ b u, H0 b = some u → (∀ i, M i ≠ some b) → H b = some u
/-- from one point of an expression to a later one -/
structure Ext (st : DSt) (σ : L2.St) (F : Addr → Prop) (H : Hp) (st' : DSt) (F' : Addr → Prop) (H' : Hp) : Prop where
  sub : ∀ a, F a → F' a
  new : ∀ a, F' a → F a ∨ H a = none ∨ OwnAt st σ a
  keep : ∀ b u, H b = some u → ¬ OwnAt st σ b → H' b = some u
  live : ∀ b, H b ≠ none → H' b ≠ none
  own : ∀ i, IsOwn st' i → IsOwn st i
section
variable {K : PySem.W.Frag} {H0 : Hp} {M : Nat → Option Addr} {st st' st2 : DSt} {σ : L2.St} {F F' F2 : Addr → Prop} {H H' H2 Hb : Hp}
theorem Ext.refl : Ext st σ F H st F H := ⟨fun _ h => h, fun _ h => .inl h, fun _ _ h _ => h, fun _ h => h, fun _ h => h⟩
theorem Sim.atOwn (S : Sim K H0 M st σ F H) {p : Addr} (o : OwnAt st σ p) : (∃ vs, H p = some (.lst vs)) ∧ ¬ F p := by
  obtain ⟨i, ⟨xs, h | h⟩, e⟩ := o
  · obtain ⟨q, vs, e1, e2, _, nf, _⟩ := S.own i xs h
    rw [e] at e1
    cases e1
    exact ⟨⟨vs, e2⟩, nf⟩
  · obtain ⟨q, vs, _, e1, e2, _, nf⟩ := S.lent i xs h
    rw [e] at e1
    cases e1
    exact ⟨⟨vs, e2⟩, nf⟩
theorem OwnAt.imp (o : ∀ i, IsOwn st' i → IsOwn st i) {p : Addr} (h : OwnAt st' σ p) : OwnAt st σ p := let ⟨i, h1, h2⟩ := h; ⟨i, o i h1, h2⟩
theorem Ext.trans (a : Ext st σ F H st' F' H') (b : Ext st' σ F' H' st2 F2 H2) : Ext st σ F H st2 F2 H2 where
  sub := fun c h => b.sub c (a.sub c h)
  new := fun c h => by
    rcases b.new c h with h | h | h
    · exact a.new c h
    · refine .inr (.inl ?_)
      apply Classical.byContradiction
      intro z
      exact a.live c z h
    · exact .inr (.inr (h.imp a.own))
  keep := fun c u h n => b.keep c u (a.keep c u h n) fun z => n (z.imp a.own)
  live := fun c h => b.live c (a.live c h)
  own := fun i h => a.own i (b.own i h)
theorem Ext.fl (S : Sim K H0 M st σ F H) (E : Ext st σ F H st' F' H') {a : Addr} {xs : List V} (h : FL K F H a xs) : FL K F' H' a xs := by
  rcases h with ⟨f, h⟩ | ⟨o, h⟩ | h
  · exact .inl ⟨E.sub _ f, E.keep _ _ h fun z => (S.atOwn z).2 f⟩
  · refine .inr (.inl ⟨o, E.keep _ _ h fun z => ?_⟩)
    obtain ⟨⟨vs, e⟩, _⟩ := S.atOwn z
    rw [h] at e
    cases e
  · exact .inr (.inr h)
theorem Ext.sqt (S : Sim K H0 M st σ F H) (E : Ext st σ F H st' F' H') {a : Addr} {xs : List V} (h : SqT K H a xs) : SqT K H' a xs :=
  sqT_up (fun b u e nl => E.keep b u e fun z => by
    obtain ⟨⟨vs, e'⟩, _⟩ := S.atOwn z
    rw [e] at e'
    cases e'
    exact nl vs rfl) h
theorem Ext.std (S : Sim K H0 M st σ F H) (E : Ext st σ F H st' F' H') {a : Addr} {o : Option (List V)} (h : STD K H a o) : STD K H' a o :=
  stD_up (fun b u e nl => E.keep b u e fun z => by
    obtain ⟨⟨vs, e'⟩, _⟩ := S.atOwn z
    rw [e] at e'
    cases e'
    exact nl vs rfl) h
theorem Ext.rp (S : Sim K H0 M st σ F H) (E : Ext st σ F H st' F' H') {v : V} {x : PyData} (h : Rp K F H v x) : Rp K F' H' v x := h.mono (fun _ _ => E.fl S) fun _ _ => E.std S
theorem Ext.rpAll (S : Sim K H0 M st σ F H) (E : Ext st σ F H st' F' H') {vs : List V} {xs : List PyData} (h : RpAll K F H vs xs) : RpAll K F' H' vs xs := h.mono (fun _ _ => E.fl S) fun _ _ => E.std S
theorem Sim.fresh0 (S : Sim K H0 M st σ F H) {p : Addr} (h : H p = none) : H0 p = none := by
  cases e : H0 p with
  | none => rfl
  | some u =>
    exfalso
    by_cases m : ∃ i, M i = some p
    · obtain ⟨i, m⟩ := m
      obtain ⟨xs, q⟩ := S.lentE i p m
      obtain ⟨p', vs, m', _, e2, _⟩ := S.lent i xs q
      rw [m] at m'
      cases m'
      rw [h] at e2
      cases e2
    · have := S.base p u e fun i z => m ⟨i, z⟩
      rw [h] at this
      cases this
/-- the heap grew -/
theorem Rp.grow (s : Same H H') {v : V} {x : PyData} (h : Rp K F H v x) : Rp K F H' v x :=
  h.mono (fun a xs h => h.elim (fun h => .inl ⟨h.1, s _ _ h.2⟩) fun h => h.elim (fun ⟨o, h⟩ => .inr (.inl ⟨o, s _ _ h⟩)) fun h => .inr (.inr h)) fun a xs h => stD_up (fun b u e _ => s b u e) h
theorem RpAll.grow (s : Same H H') {v : List V} {x : List PyData} (h : RpAll K F H v x) : RpAll K F H' v x :=
  h.mono (fun a xs h => h.elim (fun h => .inl ⟨h.1, s _ _ h.2⟩) fun h => h.elim (fun ⟨o, h⟩ => .inr (.inl ⟨o, s _ _ h⟩)) fun h => .inr (.inr h)) fun a xs h => stD_up (fun b u e _ => s b u e) h
theorem Rp.more (s : ∀ a, F a → F' a) {v : V} {x : PyData} (h : Rp K F H v x) : Rp K F' H v x :=
  h.mono (fun a xs h => h.elim (fun h => .inl ⟨s _ h.1, h.2⟩) .inr) fun _ _ h => h
theorem RpAll.more (s : ∀ a, F a → F' a) {v : List V} {x : List PyData} (h : RpAll K F H v x) : RpAll K F' H v x :=
  h.mono (fun a xs h => h.elim (fun h => .inl ⟨s _ h.1, h.2⟩) .inr) fun _ _ h => h
theorem Sim.grow (S : Sim K H0 M st σ F H) (s : Same H H') : Sim K H0 M st σ F H' where
  len := S.len
  dat := fun i x h => let ⟨v, e, r⟩ := S.dat i x h; ⟨v, e, r.grow s⟩
  own := fun i xs h => let ⟨p, vs, e1, e2, r, n, z⟩ := S.own i xs h; ⟨p, vs, e1, s _ _ e2, r.grow s, n, z⟩
  lent := fun i xs h => let ⟨p, vs, m, e1, e2, r, n⟩ := S.lent i xs h; ⟨p, vs, m, e1, s _ _ e2, r.grow s, n⟩
  lentE := S.lentE
  lent0 := S.lent0
  inj := S.inj
  frz := fun a h => let ⟨xs, e⟩ := S.frz a h; ⟨xs, s _ _ e⟩
  base := fun b u h n => s _ _ (S.base b u h n)
theorem Ext.grow (s : Same H H') : Ext st σ F H st F H' :=
  ⟨fun _ h => h, fun _ h => .inl h, fun _ _ h _ => s _ _ h, fun b h => by
    cases e : H b with
    | none => exact absurd e h
    | some u => rw [s _ _ e]; exact fun z => (by cases z), fun _ h => h⟩
/-- more is given away -/
theorem Sim.more (S : Sim K H0 M st σ F H) (s : ∀ a, F a → F' a) (f : ∀ a, F' a → ∃ xs, H a = some (.lst xs)) (no : ∀ a, F' a → ¬ OwnAt st σ a) : Sim K H0 M st σ F' H where
  len := S.len
  dat := fun i x h => let ⟨v, e, r⟩ := S.dat i x h; ⟨v, e, r.more s⟩
  own := fun i xs h => let ⟨p, vs, e1, e2, r, n, z⟩ := S.own i xs h; ⟨p, vs, e1, e2, r.more s, fun q => no p q ⟨i, ⟨xs, .inl h⟩, e1⟩, z⟩
  lent := fun i xs h => let ⟨p, vs, m, e1, e2, r, n⟩ := S.lent i xs h; ⟨p, vs, m, e1, e2, r.more s, fun q => no p q ⟨i, ⟨xs, .inr h⟩, e1⟩⟩
  lentE := S.lentE
  lent0 := S.lent0
  inj := S.inj
  frz := f
  base := S.base
theorem getD_set {st : DSt} {i j : Nat} {x : Option SV} (hi : i < st.length) : (st.set i x).getD j none = if i = j then x else st.getD j none := by
  rw [List.getD_eq_getElem?_getD, List.getD_eq_getElem?_getD, List.getElem?_set]
  by_cases h : i = j
  · subst h
    simp [hi]
  · simp [h]
theorem getD_lt {st : DSt} {i : Nat} {x : SV} (h : st.getD i none = some x) : i < st.length := by
  apply Classical.byContradiction
  intro n
  rw [List.getD_eq_getElem?_getD, List.getElem?_eq_none (by omega)] at h
  cases h
/-- a slot's list is given away -/
theorem Sim.give (S : Sim K H0 M st σ F H) {i : Nat} {xs : List D} {p : Addr} (h : st.getD i none = some (.own xs)) (e : σ[i]? = some (some (.ref p))) :
    Sim K H0 M (st.set i (some (.d (.list xs)))) σ (fun a => F a ∨ a = p) H ∧ Rp K (fun a => F a ∨ a = p) H (.ref p) (.list xs) ∧ (∀ j, IsOwn (st.set i (some (.d (.list xs)))) j → IsOwn st j) := by
  have hi := getD_lt h
  obtain ⟨q, vs, e1, e2, r, nf, z⟩ := S.own i xs h
  rw [e] at e1
  cases e1
  have sub : ∀ a, F a → (F a ∨ a = p) := fun _ => .inl
  have rr : Rp K (fun a => F a ∨ a = p) H (.ref p) (.list xs) := .lst (.inl ⟨.inr rfl, e2⟩) (r.more sub)
  have own : ∀ j, IsOwn (st.set i (some (.d (.list xs)))) j → IsOwn st j ∧ j ≠ i := fun j ⟨ys, hj⟩ => by
    rw [getD_set hi] at hj
    by_cases ij : i = j
    · rw [if_pos ij] at hj
      rcases hj with hj | hj <;> cases hj
    · rw [if_neg ij] at hj
      exact ⟨⟨ys, hj⟩, fun z => ij z.symm⟩
  refine ⟨⟨by rw [List.length_set]; exact S.len, fun j x hj => ?_, fun j ys hj => ?_, fun j ys hj => ?_, fun j q m => ?_, S.lent0, fun j k q a b => S.inj j k q (own j a).1 (own k b).1, fun a ha => ?_, S.base⟩, rr, fun j hj => (own j hj).1⟩
  · rw [getD_set hi] at hj
    by_cases ij : i = j
    · subst ij
      rw [if_pos rfl] at hj
      cases hj
      exact ⟨_, e, rr⟩
    · rw [if_neg ij] at hj
      obtain ⟨v, a, b⟩ := S.dat j x hj
      exact ⟨v, a, b.more sub⟩
  · have oj := own j ⟨ys, .inl hj⟩
    rw [getD_set hi, if_neg fun z => oj.2 z.symm] at hj
    obtain ⟨q, ws, a, b, c, d, f⟩ := S.own j ys hj
    refine ⟨q, ws, a, b, c.more sub, ?_, f⟩
    rintro (z | z)
    · exact d z
    · subst z
      exact oj.2 (S.inj j i q oj.1 ⟨xs, .inl h⟩ a e)
  · have oj := own j ⟨ys, .inr hj⟩
    rw [getD_set hi, if_neg fun z => oj.2 z.symm] at hj
    obtain ⟨q, ws, m, a, b, c, d⟩ := S.lent j ys hj
    refine ⟨q, ws, m, a, b, c.more sub, ?_⟩
    rintro (z | z)
    · exact d z
    · subst z
      exact oj.2 (S.inj j i q oj.1 ⟨xs, .inl h⟩ a e)
  · obtain ⟨ys, hj⟩ := S.lentE j q m
    refine ⟨ys, ?_⟩
    rw [getD_set hi, if_neg, hj]
    rintro rfl
    rw [h] at hj
    cases hj
  · rcases ha with ha | rfl
    · exact S.frz a ha
    · exact ⟨vs, e2⟩
end

/-! ### values -/
/-- Hb: the heap ahead of the expression -/
def RvOk (K : PySem.W.Frag) (F : Addr → Prop) (H : Hp) (st : DSt) (σ : L2.St) (Hb : Hp) : Rv → V → Prop
  | .d x, v => Rp K F H v x
  | .tmp xs, v => ∃ p vs, v = .ref p ∧ H p = some (.lst vs) ∧ RpAll K F H vs xs ∧ ¬ F p ∧ ¬ OwnAt st σ p ∧ Hb p = none
  | .sl i, v => σ[i]? = some (some v)
/-- .. of which it is not told that no other one has it -/
def RvW (K : PySem.W.Frag) (F : Addr → Prop) (H : Hp) (st : DSt) (σ : L2.St) (Hb : Hp) : Rv → V → Prop
  | .d x, v => Rp K F H v x
  | .tmp xs, v => ∃ p vs, v = .ref p ∧ H p = some (.lst vs) ∧ RpAll K F H vs xs ∧ ¬ OwnAt st σ p ∧ Hb p = none
  | .sl i, v => σ[i]? = some (some v)
inductive RvWs (K : PySem.W.Frag) (F : Addr → Prop) (H : Hp) (st : DSt) (σ : L2.St) (Hb : Hp) : List Rv → List V → Prop
  | nil : RvWs K F H st σ Hb [] []
  | cons {r : Rv} {v : V} {rs : List Rv} {vs : List V} : RvW K F H st σ Hb r v → RvWs K F H st σ Hb rs vs → RvWs K F H st σ Hb (r :: rs) (v :: vs)
/-- what may be looked at -/
def Pk (K : PySem.W.Frag) (F : Addr → Prop) (H : Hp) (v : V) (x : PyData) : Prop :=
  Rp K F H v x ∨ ∃ p vs xs, v = .ref p ∧ x = .list xs ∧ H p = some (.lst vs) ∧ RpAll K F H vs xs
inductive PkAll (K : PySem.W.Frag) (F : Addr → Prop) (H : Hp) : List V → List PyData → Prop
  | nil : PkAll K F H [] []
  | cons {v : V} {x : PyData} {vs : List V} {xs : List PyData} : Pk K F H v x → PkAll K F H vs xs → PkAll K F H (v :: vs) (x :: xs)
section
variable {K : PySem.W.Frag} {H0 : Hp} {M : Nat → Option Addr} {st st' st2 : DSt} {σ : L2.St} {F F' F2 : Addr → Prop} {H H' H2 Hb Hc : Hp} {v : V} {r : Rv} {x : PyData}
theorem RvOk.weak (h : RvOk K F H st σ Hb r v) : RvW K F H st σ Hb r v := by
  cases r with
  | d x => exact h
  | tmp xs => obtain ⟨p, vs, a, b, c, _, d, e⟩ := h; exact ⟨p, vs, a, b, c, d, e⟩
  | sl i => exact h
theorem RvW.birth (h : RvW K F H st σ Hb r v) (l : ∀ b, Hc b ≠ none → Hb b ≠ none) : RvW K F H st σ Hc r v := by
  cases r with
  | d x => exact h
  | tmp xs =>
    obtain ⟨p, vs, a, b, c, d, e⟩ := h
    exact ⟨p, vs, a, b, c, d, Classical.byContradiction fun z => l p z e⟩
  | sl i => exact h
theorem RvOk.birth (h : RvOk K F H st σ Hb r v) (l : ∀ b, Hc b ≠ none → Hb b ≠ none) : RvOk K F H st σ Hc r v := by
  cases r with
  | d x => exact h
  | tmp xs =>
    obtain ⟨p, vs, a, b, c, f, d, e⟩ := h
    exact ⟨p, vs, a, b, c, f, d, Classical.byContradiction fun z => l p z e⟩
  | sl i => exact h
/-- slots stay filled -/
def Fill (_ _ : DSt) : Prop := True
theorem RvW.ext (S : Sim K H0 M st σ F H) (E : Ext st σ F H st' F' H') (f : Fill st st') (h : RvW K F H st σ Hb r v) : RvW K F' H' st' σ Hb r v := by
  cases r with
  | d x => exact E.rp S h
  | tmp xs =>
    obtain ⟨p, vs, a, b, c, d, e⟩ := h
    exact ⟨p, vs, a, E.keep _ _ b d, E.rpAll S c, fun z => d (z.imp E.own), e⟩
  | sl i => exact h
theorem RvOk.ext (S : Sim K H0 M st σ F H) (E : Ext st σ F H st' F' H') (f : Fill st st') (h : RvOk K F H st σ Hb r v) : RvOk K F' H' st' σ Hb r v := by
  cases r with
  | d x => exact E.rp S h
  | tmp xs =>
    obtain ⟨p, vs, a, b, c, nf, d, e⟩ := h
    refine ⟨p, vs, a, E.keep _ _ b d, E.rpAll S c, fun z => ?_, fun z => d (z.imp E.own), e⟩
    rcases E.new p z with z | z | z
    · exact nf z
    · rw [b] at z; cases z
    · exact d z
  | sl i => exact h
theorem look_ok (S : Sim K H0 M st σ F H) (h : RvW K F H st σ Hb r v) (e : look st r = some x) : Pk K F H v x := by
  cases r with
  | d y => cases e; exact .inl h
  | tmp xs =>
    obtain ⟨p, vs, a, b, c, _⟩ := h
    cases e
    exact .inr ⟨p, vs, xs, a, rfl, b, c⟩
  | sl i =>
    have h : σ[i]? = some (some v) := h
    have e : lookS (st.getD i none) = some x := e
    cases q : st.getD i none with
    | none => rw [q] at e; cases e
    | some s =>
      rw [q] at e
      cases s with
      | d y =>
        cases e
        obtain ⟨w, e1, r1⟩ := S.dat i _ q
        rw [h] at e1
        cases e1
        exact .inl r1
      | own xs =>
        cases e
        obtain ⟨p, vs, e1, e2, r1, _⟩ := S.own i xs q
        rw [h] at e1
        cases e1
        exact .inr ⟨p, vs, xs, rfl, rfl, e2, r1⟩
      | lent xs =>
        cases e
        obtain ⟨p, vs, _, e1, e2, r1, _⟩ := S.lent i xs q
        rw [h] at e1
        cases e1
        exact .inr ⟨p, vs, xs, rfl, rfl, e2, r1⟩
theorem looks_ok (S : Sim K H0 M st σ F H) : ∀ {rs : List Rv} {vs : List V} {xs : List D}, RvWs K F H st σ Hb rs vs → looks st rs = some xs → PkAll K F H vs xs
  | [], _, xs, .nil, e => by cases e; exact .nil
  | r :: rs, _, xs, .cons h t, e => by
    have e : ((look st r).bind fun x => (looks st rs).bind fun xs => some (x :: xs)) = some xs := e
    cases q : look st r with
    | none => rw [q] at e; cases e
    | some x =>
      rw [q] at e
      cases q2 : looks st rs with
      | none => rw [q2] at e; cases e
      | some ys =>
        rw [q2] at e
        cases e
        exact .cons (look_ok S h q) (looks_ok S t q2)
theorem Fill.refl : Fill st st := trivial
theorem Fill.trans (_ : Fill st st') (_ : Fill st' st2) : Fill st st2 := trivial
theorem Fill.set {i : Nat} {s : SV} (_ : i < st.length) : Fill st (st.set i (some s)) := trivial
/-- a value given away; the way from the expression's beginning goes on to here -/
theorem toD_ok {sts : DSt} {Fs : Addr → Prop} (S : Sim K H0 M st σ F H) (E : Ext sts σ Fs Hb st F H) (h : RvW K F H st σ Hb r v) (e : toD st r = some (x, st')) :
    ∃ F', Sim K H0 M st' σ F' H ∧ Ext sts σ Fs Hb st' F' H ∧ Rp K F' H v x ∧ (∀ a, F a → F' a) ∧ (∀ i, IsOwn st' i → IsOwn st i) ∧ Fill st st' := by
  cases r with
  | d y =>
    cases e
    exact ⟨F, S, E, h, fun _ h => h, fun _ h => h, .refl⟩
  | tmp xs =>
    cases e
    obtain ⟨p, vs, rfl, b, c, d, f⟩ := h
    have sub : ∀ a, F a → (F a ∨ a = p) := fun _ => .inl
    refine ⟨fun a => F a ∨ a = p, S.more sub ?_ ?_, ⟨fun a z => .inl (E.sub a z), ?_, E.keep, E.live, E.own⟩, .lst (.inl ⟨.inr rfl, b⟩) (c.more sub), sub, fun _ h => h, .refl⟩
    · rintro a (z | rfl)
      · exact S.frz a z
      · exact ⟨vs, b⟩
    · rintro a (z | rfl)
      · exact fun o => (S.atOwn o).2 z
      · exact d
    · rintro a (z | rfl)
      · exact E.new a z
      · exact .inr (.inl f)
  | sl i =>
    have h : σ[i]? = some (some v) := h
    have e : (match st.getD i none with
      | some (.d x) => some (x, st)
      | some (.own xs) => some (.list xs, st.set i (some (.d (.list xs))))
      | _ => none) = some (x, st') := e
    cases q : st.getD i none with
    | none => rw [q] at e; cases e
    | some s =>
      rw [q] at e
      cases s with
      | d y =>
        cases e
        obtain ⟨w, e1, r1⟩ := S.dat i _ q
        rw [h] at e1
        cases e1
        exact ⟨F, S, E, r1, fun _ h => h, fun _ h => h, .refl⟩
      | own xs =>
        cases e
        obtain ⟨p, vs, e1, e2, _⟩ := S.own i xs q
        rw [h] at e1
        cases e1
        obtain ⟨S', rr, o⟩ := S.give q h
        have own1 : OwnAt st σ p := ⟨i, ⟨xs, .inl q⟩, h⟩
        refine ⟨fun a => F a ∨ a = p, S', ⟨fun a z => .inl (E.sub a z), ?_, E.keep, E.live, fun j z => E.own j (o j z)⟩, rr, fun _ => .inl, o, .set (getD_lt q)⟩
        rintro a (z | rfl)
        · exact E.new a z
        · exact .inr (.inr (own1.imp E.own))
      | lent xs => cases e
theorem RvWs.to {F' : Addr → Prop} (s : ∀ a, F a → F' a) (o : ∀ i, IsOwn st' i → IsOwn st i) (f : Fill st st') : ∀ {rs : List Rv} {vs : List V}, RvWs K F H st σ Hb rs vs → RvWs K F' H st' σ Hb rs vs
  | _, _, .nil => .nil
  | r :: rs, _, .cons h t => by
    refine .cons ?_ (RvWs.to s o f t)
    cases r with
    | d x => exact Rp.more s h
    | tmp xs =>
      obtain ⟨p, vs, a, b, c, d, e⟩ := h
      exact ⟨p, vs, a, b, c.more s, fun z => d (z.imp o), e⟩
    | sl i => exact h
theorem RvWs.ext (S : Sim K H0 M st σ F H) (E : Ext st σ F H st' F' H') (f : Fill st st') : ∀ {rs : List Rv} {vs : List V}, RvWs K F H st σ Hb rs vs → RvWs K F' H' st' σ Hb rs vs
  | _, _, .nil => .nil
  | _, _, .cons h t => .cons (h.ext S E f) (RvWs.ext S E f t)
theorem RvWs.birth (l : ∀ b, Hc b ≠ none → Hb b ≠ none) : ∀ {rs : List Rv} {vs : List V}, RvWs K F H st σ Hb rs vs → RvWs K F H st σ Hc rs vs
  | _, _, .nil => .nil
  | _, _, .cons h t => .cons (h.birth l) (RvWs.birth l t)
theorem toDs_ok {sts : DSt} {Fs : Addr → Prop} : ∀ {rs : List Rv} {vs : List V} {xs : List D} {st st' : DSt} {F : Addr → Prop}, Sim K H0 M st σ F H → Ext sts σ Fs Hb st F H → RvWs K F H st σ Hb rs vs → toDs st rs = some (xs, st') →
    ∃ F', Sim K H0 M st' σ F' H ∧ Ext sts σ Fs Hb st' F' H ∧ RpAll K F' H vs xs ∧ (∀ a, F a → F' a) ∧ (∀ i, IsOwn st' i → IsOwn st i) ∧ Fill st st'
  | [], _, xs, st, st', F, S, E, .nil, e => by
    cases e
    exact ⟨F, S, E, .nil, fun _ h => h, fun _ h => h, .refl⟩
  | r :: rs, _, xs, st, st', F, S, E, .cons h t, e => by
    have e : ((toD st r).bind fun p => (toDs p.2 rs).bind fun q => some (p.1 :: q.1, q.2)) = some (xs, st') := e
    cases q : toD st r with
    | none => rw [q] at e; cases e
    | some p =>
      rw [q] at e
      cases q2 : toDs p.2 rs with
      | none =>
        have e : ((toDs p.2 rs).bind fun q => some (p.1 :: q.1, q.2)) = some (xs, st') := e
        rw [q2] at e
        cases e
      | some w =>
        have e : ((toDs p.2 rs).bind fun q => some (p.1 :: q.1, q.2)) = some (xs, st') := e
        rw [q2] at e
        cases e
        obtain ⟨F1, S1, E1, r1, s1, o1, f1⟩ := toD_ok S E h q
        obtain ⟨F2, S2, E2, r2, s2, o2, f2⟩ := toDs_ok S1 E1 (t.to s1 o1 f1) q2
        exact ⟨F2, S2, E2, .cons (r1.more s2) r2, fun a z => s2 a (s1 a z), fun i z => o1 i (o2 i z), f1.trans f2⟩
end
end DL
end

section
set_option Elab.async false
set_option linter.all false
set_option maxRecDepth 100000
set_option maxHeartbeats 1000000
/-! DLsnd2: readings of expressions and tests. -/
namespace DL
open PySem PySem.Spec PyProof.Rows L2
def SndE (K : PySem.W.Frag) (t : TE) (f : DE) : Prop := ∀ (H0 : Hp) (M : Nat → Option Addr) (st : DSt) (σ : L2.St) (F : Addr → Prop) (H : Hp) (r : Rv) (st' : DSt) (Q : VK), Sim K H0 M st σ F H → f st = some (r, st') →
  (∀ v F' H', Sim K H0 M st' σ F' H' → Ext st σ F H st' F' H' → Fill st st' → RvOk K F' H' st' σ H r v → Q v H') → t σ H Q
def SndT (K : PySem.W.Frag) (t : TT) (f : DT) : Prop := ∀ (H0 : Hp) (M : Nat → Option Addr) (st : DSt) (σ : L2.St) (F : Addr → Prop) (H : Hp) (b : Bool) (st' : DSt) (Q : Bool → Hp → Prop), Sim K H0 M st σ F H → f st = some (b, st') →
  (∀ F' H', Sim K H0 M st' σ F' H' → Ext st σ F H st' F' H' → Fill st st' → Q b H') → t σ H Q
def SndA (K : PySem.W.Frag) (t : TA) (f : DA) : Prop := ∀ (H0 : Hp) (M : Nat → Option Addr) (st : DSt) (σ : L2.St) (F : Addr → Prop) (H : Hp) (rs : List Rv) (st' : DSt) (Q : List V → Hp → Prop), Sim K H0 M st σ F H → f st = some (rs, st') →
  (∀ vs F' H', Sim K H0 M st' σ F' H' → Ext st σ F H st' F' H' → Fill st st' → RvWs K F' H' st' σ H rs vs → Q vs H') → t σ H Q
def SndO (K : PySem.W.Frag) (t : TO) (f : DO) : Prop := ∀ (H0 : Hp) (M : Nat → Option Addr) (st : DSt) (σ : L2.St) (F : Addr → Prop) (H : Hp) (o : Option Int) (st' : DSt) (Q : Option Int → Hp → Prop), Sim K H0 M st σ F H → f st = some (o, st') →
  (∀ F' H', Sim K H0 M st' σ F' H' → Ext st σ F H st' F' H' → Fill st st' → Q o H') → t σ H Q
/-- what an operation makes -/
def NewOk (K : PySem.W.Frag) (F : Addr → Prop) (H H' : Hp) (v : V) : Rv → Prop
  | .d x => Rp K F H' v x
  | .tmp xs => ∃ p vs, v = .ref p ∧ H p = none ∧ H' p = some (.lst vs) ∧ RpAll K F H' vs xs
  | .sl _ => False
def Prim2 (K : PySem.W.Frag) (r : R2) (op : D → D → Option Rv) : Prop := ∀ (F : Addr → Prop) (H : Hp) (v w : V) (x y : D) (z : Rv) (Q : VK), Pk K F H v x → Pk K F H w y → op x y = some z →
  (∀ v' H', Same H H' → NewOk K F H H' v' z → Q v' H') → r v w H Q
def Prim1 (K : PySem.W.Frag) (r : V → Hp → VK → Prop) (op : D → Option Rv) : Prop := ∀ (F : Addr → Prop) (H : Hp) (v : V) (x : D) (z : Rv) (Q : VK), Pk K F H v x → op x = some z →
  (∀ v' H', Same H H' → NewOk K F H H' v' z → Q v' H') → r v H Q
def PrimN (K : PySem.W.Frag) (r : List V → Hp → VK → Prop) (op : List D → Option Rv) : Prop := ∀ (F : Addr → Prop) (H : Hp) (vs : List V) (xs : List D) (z : Rv) (Q : VK), PkAll K F H vs xs → op xs = some z →
  (∀ v' H', Same H H' → NewOk K F H H' v' z → Q v' H') → r vs H Q
def PrimS (K : PySem.W.Frag) (r : V → Option Int → Option Int → Hp → VK → Prop) (op : D → Option Int → Option Int → Option Rv) : Prop := ∀ (F : Addr → Prop) (H : Hp) (v : V) (x : D) (lo hi : Option Int) (z : Rv) (Q : VK), Pk K F H v x → op x lo hi = some z →
  (∀ v' H', Same H H' → NewOk K F H H' v' z → Q v' H') → r v lo hi H Q
section
variable {K : PySem.W.Frag} {H0 : Hp} {M : Nat → Option Addr} {st st' st2 : DSt} {σ : L2.St} {F F' F2 : Addr → Prop} {H H' H2 H3 Hb Hc : Hp} {v w : V} {r : Rv} {x : PyData}
theorem bs {α β : Type} {o : Option α} {f : α → Option β} {r : β} (h : (o.bind f) = some r) : ∃ x, o = some x ∧ f x = some r := by
  cases o with
  | none => cases h
  | some x => exact ⟨x, rfl, h⟩
theorem fin_new {z : Rv} (S2 : Sim K H0 M st2 σ F2 H2) (E : Ext st σ F H st2 F2 H2) (s : Same H2 H3) (n : NewOk K F2 H2 H3 v z) : Sim K H0 M st2 σ F2 H3 ∧ Ext st σ F H st2 F2 H3 ∧ RvOk K F2 H3 st2 σ H z v := by
  refine ⟨S2.grow s, E.trans (.grow s), ?_⟩
  cases z with
  | d x => exact n
  | tmp xs =>
    obtain ⟨p, vs, a, b, c, d⟩ := n
    refine ⟨p, vs, a, c, d, fun z => ?_, fun z => ?_, Classical.byContradiction fun z => E.live p z b⟩
    · obtain ⟨ys, e⟩ := S2.frz p z
      rw [b] at e
      cases e
    · obtain ⟨⟨ys, e⟩, _⟩ := S2.atOwn z
      rw [b] at e
      cases e
  | sl i => exact n.elim

/-! ### names, constants -/
theorem snd_var {i : Nat} : SndE K (tVar i) (dVar i) := by
  intro H0 M st σ F H r st' Q S e q
  have e : (match st.getD i none with
    | some (.d x) => some (.d x, st)
    | some (.own _) => some (.sl i, st)
    | some (.lent _) => some (.sl i, st)
    | none => none) = some (r, st') := e
  cases g : st.getD i none with
  | none => rw [g] at e; cases e
  | some s =>
    rw [g] at e
    cases s with
    | d x =>
      cases e
      obtain ⟨v, e1, r1⟩ := S.dat i x g
      exact ⟨v, e1, q v F H S .refl .refl r1⟩
    | own xs =>
      cases e
      obtain ⟨p, vs, e1, _⟩ := S.own i xs g
      exact ⟨_, e1, q _ F H S .refl .refl e1⟩
    | lent xs =>
      cases e
      obtain ⟨p, vs, _, e1, _⟩ := S.lent i xs g
      exact ⟨_, e1, q _ F H S .refl .refl e1⟩
theorem snd_c {v : V} {x : D} (h : ∀ (F : Addr → Prop) (H : Hp), Rp K F H v x) : SndE K (tC v) (dC x) := by
  intro H0 M st σ F H r st' Q S e q
  cases e
  exact q v F H S .refl .refl (h F H)

/-! ### argument lists -/
theorem snd_nil : SndA K tNil dNil := by
  intro H0 M st σ F H rs st' Q S e q
  cases e
  exact q [] F H S .refl .refl .nil
theorem snd_cons {ta : TE} {tr : TA} {f : DE} {g : DA} (a : SndE K ta f) (b : SndA K tr g) : SndA K (tCons ta tr) (dCons f g) := by
  intro H0 M st σ F H rs st' Q S e q
  obtain ⟨p, e1, e⟩ := bs e
  obtain ⟨w, e2, e⟩ := bs e
  cases e
  refine a H0 M st σ F H p.1 p.2 _ S e1 fun v F1 H1 S1 E1 f1 r1 => ?_
  refine b H0 M p.2 σ F1 H1 w.1 w.2 _ S1 e2 fun vs F2 H2 S2 E2 f2 r2 => ?_
  exact q (v :: vs) F2 H2 S2 (E1.trans E2) (f1.trans f2) (.cons (r1.weak.ext S1 E2 f2) (r2.birth E1.live))

/-! ### operators -/
theorem snd_op2 {r : R2} {op : D → D → Option Rv} {ta tb : TE} {f g : DE} (h : Prim2 K r op) (a : SndE K ta f) (b : SndE K tb g) : SndE K (tOp r ta tb) (dOp2 op f g) := by
  intro H0 M st σ F H z st' Q S e q
  obtain ⟨p, e1, e⟩ := bs e
  obtain ⟨w, e2, e⟩ := bs e
  obtain ⟨x, e3, e⟩ := bs e
  obtain ⟨y, e4, e⟩ := bs e
  obtain ⟨u, e5, e⟩ := bs e
  cases e
  refine a H0 M st σ F H p.1 p.2 _ S e1 fun v F1 H1 S1 E1 f1 r1 => ?_
  refine b H0 M p.2 σ F1 H1 w.1 w.2 _ S1 e2 fun v2 F2 H2 S2 E2 f2 r2 => ?_
  refine h F2 H2 v v2 x y z Q (look_ok S2 (r1.weak.ext S1 E2 f2) e3) (look_ok S2 r2.weak e4) e5 fun v' H' s n => ?_
  obtain ⟨S3, E3, r3⟩ := fin_new S2 (E1.trans E2) s n
  exact q v' F2 H' S3 E3 (f1.trans f2) r3
theorem snd_op1 {r : V → Hp → VK → Prop} {op : D → Option Rv} {ta : TE} {f : DE} (h : Prim1 K r op) (a : SndE K ta f) : SndE K (tUn r ta) (dOp1 op f) := by
  intro H0 M st σ F H z st' Q S e q
  obtain ⟨p, e1, e⟩ := bs e
  obtain ⟨x, e3, e⟩ := bs e
  obtain ⟨u, e5, e⟩ := bs e
  cases e
  refine a H0 M st σ F H p.1 p.2 _ S e1 fun v F1 H1 S1 E1 f1 r1 => ?_
  refine h F1 H1 v x z Q (look_ok S1 r1.weak e3) e5 fun v' H' s n => ?_
  obtain ⟨S3, E3, r3⟩ := fin_new S1 E1 s n
  exact q v' F1 H' S3 E3 f1 r3
theorem snd_callB {r : List V → Hp → VK → Prop} {op : List D → Option Rv} {t : TA} {f : DA} (h : PrimN K r op) (a : SndA K t f) : SndE K (tCB r t) (dCallB op f) := by
  intro H0 M st σ F H z st' Q S e q
  obtain ⟨p, e1, e⟩ := bs e
  obtain ⟨xs, e3, e⟩ := bs e
  obtain ⟨u, e5, e⟩ := bs e
  cases e
  refine a H0 M st σ F H p.1 p.2 _ S e1 fun vs F1 H1 S1 E1 f1 r1 => ?_
  refine h F1 H1 vs xs z Q (looks_ok S1 r1 e3) e5 fun v' H' s n => ?_
  obtain ⟨S3, E3, r3⟩ := fin_new S1 E1 s n
  exact q v' F1 H' S3 E3 f1 r3
theorem snd_nopart : SndO K tNoPart dNoPart := by
  intro H0 M st σ F H o st' Q S e q
  cases e
  exact q F H S .refl .refl
theorem snd_part {t : TE} {f : DE} (a : SndE K t f) : SndO K (tPart t) (dPart f) := by
  intro H0 M st σ F H o st' Q S e q
  obtain ⟨p, e1, e⟩ := bs e
  refine a H0 M st σ F H p.1 p.2 _ S e1 fun v F1 H1 S1 E1 f1 r1 => ?_
  cases g : look p.2 p.1 with
  | none => rw [g] at e; cases e
  | some x =>
    rw [g] at e
    cases x with
    | int i =>
      cases e
      have k := look_ok S1 r1.weak g
      rcases k with k | ⟨_, _, _, _, k, _⟩
      · cases k
        exact ⟨i, rfl, q F1 H1 S1 E1 f1⟩
      · cases k
    | _ => cases e
theorem snd_slice {r : V → Option Int → Option Int → Hp → VK → Prop} {op : D → Option Int → Option Int → Option Rv} {te : TE} {tl th : TO} {f : DE} {fl fh : DO} (h : PrimS K r op) (a : SndE K te f) (b : SndO K tl fl) (c : SndO K th fh) :
    SndE K (tSl r te tl th) (dSlice op f fl fh) := by
  intro H0 M st σ F H z st' Q S e q
  obtain ⟨p, e1, e⟩ := bs e
  obtain ⟨l, e2, e⟩ := bs e
  obtain ⟨u, e3, e⟩ := bs e
  obtain ⟨x, e4, e⟩ := bs e
  obtain ⟨y, e5, e⟩ := bs e
  cases e
  refine a H0 M st σ F H p.1 p.2 _ S e1 fun v F1 H1 S1 E1 f1 r1 => ?_
  refine b H0 M p.2 σ F1 H1 l.1 l.2 _ S1 e2 fun F2 H2 S2 E2 f2 => ?_
  refine c H0 M l.2 σ F2 H2 u.1 u.2 _ S2 e3 fun F3 H3 S3 E3 f3 => ?_
  refine h F3 H3 v x l.1 u.1 z Q (look_ok S3 ((r1.weak.ext S1 E2 f2).ext S2 E3 f3) e4) e5 fun v' H' s n => ?_
  obtain ⟨S4, E4, r4⟩ := fin_new S3 ((E1.trans E2).trans E3) s n
  exact q v' F3 H' S4 E4 ((f1.trans f2).trans f3) r4
theorem same_upd {H : Hp} {p : Addr} {o : HO} (h : H p = none) : Same H (upd H p o) := fun b x e => by
  rw [upd_ne (ne_of_none e h)]
  exact e
theorem snd_list {t : TA} {f : DA} (a : SndA K t f) : SndE K (tLst t) (dList f) := by
  intro H0 M st σ F H z st' Q S e q
  obtain ⟨p, e1, e⟩ := bs e
  obtain ⟨w, e2, e⟩ := bs e
  refine a H0 M st σ F H p.1 p.2 _ S e1 fun vs F1 H1 S1 E1 f1 r1 => ?_
  obtain ⟨F2, S2, E2, rr, _, _, f2⟩ := toDs_ok S1 E1 r1 e2
  by_cases hz : w.1.length ≤ sizeLine
  · rw [if_pos hz] at e
    cases e
    refine ⟨by rw [rr.length]; exact hz, fun p hp => ?_⟩
    obtain ⟨S3, E3, r3⟩ := fin_new (z := .tmp w.1) S2 E2 (same_upd hp) ⟨p, vs, rfl, hp, upd_same, rr.grow (same_upd hp)⟩
    exact q _ F2 _ S3 E3 (f1.trans f2) r3
  · rw [if_neg hz] at e
    cases e
theorem snd_tup {t : TA} {f : DA} (a : SndA K t f) : SndE K (tTup t) (dTup f) := by
  intro H0 M st σ F H z st' Q S e q
  obtain ⟨p, e1, e⟩ := bs e
  obtain ⟨w, e2, e⟩ := bs e
  refine a H0 M st σ F H p.1 p.2 _ S e1 fun vs F1 H1 S1 E1 f1 r1 => ?_
  obtain ⟨F2, S2, E2, rr, _, _, f2⟩ := toDs_ok S1 E1 r1 e2
  by_cases hz : w.1.length ≤ sizeLine
  · rw [if_pos hz] at e
    cases e
    refine ⟨by rw [rr.length]; exact hz, fun p hp => ?_⟩
    obtain ⟨S3, E3, r3⟩ := fin_new (z := .d (.tuple w.1)) S2 E2 (same_upd hp) (show Rp K F2 _ (.ref p) _ from .tup (SqT.of upd_same) (rr.grow (same_upd hp)))
    exact q _ F2 _ S3 E3 (f1.trans f2) r3
  · rw [if_neg hz] at e
    cases e

/-! ### tests -/
theorem look_bool (S : Sim K H0 M st σ F H) (h : RvW K F H st σ Hb r v) {b : Bool} (e : look st r = some (.bool b)) : v = .bl b := by
  rcases look_ok S h e with k | ⟨_, _, _, _, k, _⟩
  · cases k
    rfl
  · cases k
theorem snd_test {t : TE} {f : DE} (a : SndE K t f) : SndT K (tB t) (dTest f) := by
  intro H0 M st σ F H b st' Q S e q
  obtain ⟨p, e1, e⟩ := bs e
  refine a H0 M st σ F H p.1 p.2 _ S e1 fun v F1 H1 S1 E1 f1 r1 => ?_
  cases g : look p.2 p.1 with
  | none => rw [g] at e; cases e
  | some x =>
    rw [g] at e
    cases x with
    | bool c =>
      cases e
      exact ⟨b, look_bool S1 r1.weak g, q F1 H1 S1 E1 f1⟩
    | _ => cases e
theorem snd_testC {t : TE} {f : DE} (a : SndE K t f) : SndT K (tTest t) (dTest f) := snd_test a
theorem snd_not {t : TT} {f : DT} (a : SndT K t f) : SndT K (tNot t) (dNot f) := by
  intro H0 M st σ F H b st' Q S e q
  obtain ⟨p, e1, e⟩ := bs e
  cases e
  exact a H0 M st σ F H p.1 p.2 _ S e1 fun F1 H1 S1 E1 f1 => q F1 H1 S1 E1 f1
theorem snd_and {t u : TT} {f g : DT} (a : SndT K t f) (b : SndT K u g) : SndT K (tAnd t u) (dAnd f g) := by
  intro H0 M st σ F H k st' Q S e q
  obtain ⟨p, e1, e⟩ := bs e
  refine a H0 M st σ F H p.1 p.2 _ S e1 fun F1 H1 S1 E1 f1 => ?_
  by_cases c : p.1 = true
  · rw [if_pos c] at e
    rw [if_pos c]
    exact b H0 M p.2 σ F1 H1 k st' _ S1 e fun F2 H2 S2 E2 f2 => q F2 H2 S2 (E1.trans E2) (f1.trans f2)
  · rw [if_neg c] at e
    rw [if_neg c]
    cases e
    exact q F1 H1 S1 E1 f1
theorem snd_or {t u : TT} {f g : DT} (a : SndT K t f) (b : SndT K u g) : SndT K (tOr t u) (dOr f g) := by
  intro H0 M st σ F H k st' Q S e q
  obtain ⟨p, e1, e⟩ := bs e
  refine a H0 M st σ F H p.1 p.2 _ S e1 fun F1 H1 S1 E1 f1 => ?_
  by_cases c : p.1 = true
  · rw [if_pos c] at e
    rw [if_pos c]
    cases e
    exact q F1 H1 S1 E1 f1
  · rw [if_neg c] at e
    rw [if_neg c]
    exact b H0 M p.2 σ F1 H1 k st' _ S1 e fun F2 H2 S2 E2 f2 => q F2 H2 S2 (E1.trans E2) (f1.trans f2)
theorem snd_andV {t u : TE} {f g : DE} (a : SndE K t f) (b : SndE K u g) : SndE K (tAndV t u) (dAndV f g) := by
  intro H0 M st σ F H k st' Q S e q
  obtain ⟨p, e1, e⟩ := bs e
  refine a H0 M st σ F H p.1 p.2 _ S e1 fun v F1 H1 S1 E1 f1 r1 => ?_
  cases g' : look p.2 p.1 with
  | none => rw [g'] at e; cases e
  | some x =>
    rw [g'] at e
    cases x with
    | bool c =>
      refine ⟨c, look_bool S1 r1.weak g', ?_⟩
      cases c with
      | true =>
        rw [if_pos rfl]
        have e : g p.2 = some (k, st') := e
        exact b H0 M p.2 σ F1 H1 k st' _ S1 e fun v F2 H2 S2 E2 f2 r2 => q v F2 H2 S2 (E1.trans E2) (f1.trans f2) (r2.birth E1.live)
      | false =>
        rw [if_neg Bool.false_ne_true]
        have e : some (Rv.d (.bool false), p.2) = some (k, st') := e
        cases e
        exact q _ F1 H1 S1 E1 f1 (.bl false)
    | _ => cases e
theorem snd_orV {t u : TE} {f g : DE} (a : SndE K t f) (b : SndE K u g) : SndE K (tOrV t u) (dOrV f g) := by
  intro H0 M st σ F H k st' Q S e q
  obtain ⟨p, e1, e⟩ := bs e
  refine a H0 M st σ F H p.1 p.2 _ S e1 fun v F1 H1 S1 E1 f1 r1 => ?_
  cases g' : look p.2 p.1 with
  | none => rw [g'] at e; cases e
  | some x =>
    rw [g'] at e
    cases x with
    | bool c =>
      refine ⟨c, look_bool S1 r1.weak g', ?_⟩
      cases c with
      | false =>
        rw [if_neg Bool.false_ne_true]
        have e : g p.2 = some (k, st') := e
        exact b H0 M p.2 σ F1 H1 k st' _ S1 e fun v F2 H2 S2 E2 f2 r2 => q v F2 H2 S2 (E1.trans E2) (f1.trans f2) (r2.birth E1.live)
      | true =>
        rw [if_pos rfl]
        have e : some (Rv.d (.bool true), p.2) = some (k, st') := e
        cases e
        exact q _ F1 H1 S1 E1 f1 (.bl true)
    | _ => cases e
theorem snd_notV {t : TE} {f : DE} (a : SndE K t f) : SndE K (tNotV t) (dNotV f) := by
  intro H0 M st σ F H k st' Q S e q
  obtain ⟨p, e1, e⟩ := bs e
  refine a H0 M st σ F H p.1 p.2 _ S e1 fun v F1 H1 S1 E1 f1 r1 => ?_
  cases g' : look p.2 p.1 with
  | none => rw [g'] at e; cases e
  | some x =>
    rw [g'] at e
    cases x with
    | bool c =>
      cases e
      exact ⟨c, look_bool S1 r1.weak g', q _ F1 H1 S1 E1 f1 (.bl _)⟩
    | _ => cases e
theorem snd_if {t : TT} {ta tb : TE} {c : DT} {f g : DE} (a : SndT K t c) (b : SndE K ta f) (d : SndE K tb g) : SndE K (tIf t ta tb) (dIf c f g) := by
  intro H0 M st σ F H k st' Q S e q
  obtain ⟨p, e1, e⟩ := bs e
  refine a H0 M st σ F H p.1 p.2 _ S e1 fun F1 H1 S1 E1 f1 => ?_
  by_cases h : p.1 = true
  · rw [if_pos h] at e
    rw [if_pos h]
    exact b H0 M p.2 σ F1 H1 k st' _ S1 e fun v F2 H2 S2 E2 f2 r2 => q v F2 H2 S2 (E1.trans E2) (f1.trans f2) (r2.birth E1.live)
  · rw [if_neg h] at e
    rw [if_neg h]
    exact d H0 M p.2 σ F1 H1 k st' _ S1 e fun v F2 H2 S2 E2 f2 r2 => q v F2 H2 S2 (E1.trans E2) (f1.trans f2) (r2.birth E1.live)
end

/-! ### what the operators' readings ask -/
section
variable {K : PySem.W.Frag} {F : Addr → Prop} {H : Hp} {v : V}
theorem Pk.int {i : Int} (h : Pk K F H v (.int i)) : v = .int i := by
  rcases h with k | ⟨_, _, _, _, k, _⟩
  · cases k; rfl
  · cases k
theorem Pk.bl {i : Bool} (h : Pk K F H v (.bool i)) : v = .bl i := by
  rcases h with k | ⟨_, _, _, _, k, _⟩
  · cases k; rfl
  · cases k
theorem Pk.str {i : Str} (h : Pk K F H v (.str i)) : v = .str i := by
  rcases h with k | ⟨_, _, _, _, k, _⟩
  · cases k; rfl
  · cases k
theorem Pk.non (h : Pk K F H v .none) : v = .non := by
  rcases h with k | ⟨_, _, _, _, k, _⟩
  · cases k; rfl
  · cases k
theorem Pk.list {xs : List D} (h : Pk K F H v (.list xs)) : ∃ p vs, v = .ref p ∧ SqL K H p vs ∧ RpAll K F H vs xs := by
  rcases h with k | ⟨p, vs, ys, rfl, k, e, r⟩
  · cases k with
    | lst a b => exact ⟨_, _, rfl, a.sql, b⟩
  · cases k
    exact ⟨p, vs, rfl, SqL.of e, r⟩
theorem Pk.tup {xs : List D} (h : Pk K F H v (.tuple xs)) : ∃ p vs, v = .ref p ∧ SqT K H p vs ∧ RpAll K F H vs xs := by
  rcases h with k | ⟨p, vs, ys, rfl, k, e, r⟩
  · cases k with
    | tup a b => exact ⟨_, _, rfl, a, b⟩
  · cases k
theorem Pk.dp {x : D} (h : Pk K F H v x) (n : x.hasDict = false) : Dp K H v x := by
  rcases h with k | ⟨p, vs, ys, rfl, k, e, r⟩
  · exact k.dp n
  · subst k
    exact .lst (SqL.of e) (r.dp (by simpa [PyData.hasDict] using n))
theorem Same.rfl' : Same H H := fun _ _ h => h
theorem p_int2 {g : Int → Int → V} {gd : Int → Int → Option Rv} {C : Int → Int → Prop} (h : ∀ i j z, gd i j = some z → C i j ∧ ∀ (F : Addr → Prop) (H : Hp), NewOk K F H H (g i j) z) :
    Prim2 K (rI C g) fun x y => match x, y with | .int i, .int j => gd i j | _, _ => none := by
  intro F H v w x y z Q a b e q
  cases x with
  | int i =>
    cases y with
    | int j =>
      obtain ⟨c, n⟩ := h i j z e
      exact ⟨i, j, a.int, b.int, c, q _ H Same.rfl' (n F H)⟩
    | _ => cases e
  | _ => cases e
theorem prim_sub : Prim2 K (rI0 fun i j => .int (i - j)) opSub := by
  intro F H v w x y z Q a b e q
  cases x <;> cases y <;> try (cases e; done)
  cases e
  exact ⟨_, _, a.int, b.int, q _ H Same.rfl' (.int _)⟩
theorem prim_div : Prim2 K (rI CDivW fun i j => .int (i / j)) opDiv := by
  intro F H v w x y z Q a b e q
  cases x <;> cases y <;> try (cases e; done)
  rename_i i j
  have e : (if 0 < j ∧ j.natAbs.log2 < 9000 then some (Rv.d (.int (i / j))) else none) = some z := e
  by_cases c : 0 < j ∧ j.natAbs.log2 < 9000
  · rw [if_pos c] at e
    cases e
    exact ⟨_, _, a.int, b.int, c, q _ H Same.rfl' (.int _)⟩
  · rw [if_neg c] at e
    cases e
theorem prim_mod : Prim2 K (rI (fun _ j => 0 < j) fun i j => .int (i % j)) opMod := by
  intro F H v w x y z Q a b e q
  cases x <;> cases y <;> try (cases e; done)
  rename_i i j
  have e : (if 0 < j then some (Rv.d (.int (i % j))) else none) = some z := e
  by_cases c : 0 < j
  · rw [if_pos c] at e
    cases e
    exact ⟨_, _, a.int, b.int, c, q _ H Same.rfl' (.int _)⟩
  · rw [if_neg c] at e
    cases e
theorem prim_pow : Prim2 K (rI CPow fun i j => .int (i ^ j.toNat)) opPow := by
  intro F H v w x y z Q a b e q
  cases x <;> cases y <;> try (cases e; done)
  rename_i i j
  have e : (if 0 ≤ j ∧ j ≤ 1000000 ∧ i.natAbs < 2 ^ 64 then some (Rv.d (.int (i ^ j.toNat))) else none) = some z := e
  by_cases c : 0 ≤ j ∧ j ≤ 1000000 ∧ i.natAbs < 2 ^ 64
  · rw [if_pos c] at e
    cases e
    exact ⟨_, _, a.int, b.int, c, q _ H Same.rfl' (.int _)⟩
  · rw [if_neg c] at e
    cases e
theorem prim_cmp {p : Int → Int → Bool} : Prim2 K (rI0 fun i j => .bl (p i j)) (opCmp p) := by
  intro F H v w x y z Q a b e q
  cases x <;> cases y <;> try (cases e; done)
  cases e
  exact ⟨_, _, a.int, b.int, q _ H Same.rfl' (.bl _)⟩
theorem prim_neg : Prim1 K (rU fun i => .int (-i)) opNeg := by
  intro F H v x z Q a e q
  cases x <;> try (cases e; done)
  cases e
  exact ⟨_, a.int, q _ H Same.rfl' (.int _)⟩
theorem flat_plain {x : PyData} (h : flat x = true) : x.plain = true := by
  unfold flat at h
  exact (Bool.and_eq_true _ _ ▸ h).1
theorem flat_depth {x : PyData} (h : flat x = true) : x.depth ≤ 64 := by
  unfold flat at h
  exact of_decide_eq_true (Bool.and_eq_true _ _ ▸ h).2
mutual
theorem plain_noDict : ∀ x : PyData, x.plain = true → x.hasDict = false
  | .none, _ => rfl
  | .bool _, _ => rfl
  | .int _, _ => rfl
  | .str _, _ => rfl
  | .list xs, h => by
    simp only [PyData.plain] at h
    simp only [PyData.hasDict]
    exact plain_noDictAll xs h
  | .tuple xs, h => by
    simp only [PyData.plain] at h
    simp only [PyData.hasDict]
    exact plain_noDictAll xs h
  | .dict _, h => by simp [PyData.plain] at h
theorem plain_noDictAll : ∀ xs : List PyData, PyData.plainAll xs = true → PyData.hasDictAll xs = false
  | [], _ => rfl
  | x :: xs, h => by
    simp only [PyData.plainAll, Bool.and_eq_true] at h
    simp only [PyData.hasDictAll, Bool.or_eq_false_iff]
    exact ⟨plain_noDict x h.1, plain_noDictAll xs h.2⟩
end
theorem flat_noDict {x : PyData} (h : flat x = true) : x.hasDict = false := plain_noDict x (flat_plain h)
def rEqP (K : PySem.W.Frag) : R2 := fun x y H Q => ∃ d e, Dp K H x d ∧ Dp K H y e ∧ flat d = true ∧ flat e = true ∧ Q (.bl (PyData.eqv d e)) H
def rNeP (K : PySem.W.Frag) : R2 := fun x y H Q => ∃ d e, Dp K H x d ∧ Dp K H y e ∧ flat d = true ∧ flat e = true ∧ Q (.bl (!PyData.eqv d e)) H
theorem op_eqP {X : Cx} (hu : X.A.units + 64 < cLine) : OpR X (compareOp .Eq) (rEqP X.K) := by
  intro pins s σ H x y v u Q I rx ry h
  obtain ⟨d, e, hd, he, sd, se, q⟩ := h
  obtain ⟨as, r1⟩ := Dp.reads I d x v hd rx
  obtain ⟨bs, r2⟩ := Dp.reads I e y u he ry
  have h1 := flat_depth sd
  exact SeqAt.eq_plain r1 r2 (flat_plain sd) (flat_plain se) (by omega) ⟨.bl _, H, I, rfl, q⟩
theorem op_neP {X : Cx} (hu : X.A.units + 64 < cLine) : OpR X (compareOp .NotEq) (rNeP X.K) := by
  intro pins s σ H x y v u Q I rx ry h
  obtain ⟨d, e, hd, he, sd, se, q⟩ := h
  obtain ⟨as, r1⟩ := Dp.reads I d x v hd rx
  obtain ⟨bs, r2⟩ := Dp.reads I e y u he ry
  have h1 := flat_depth sd
  exact SeqAt.ne_plain r1 r2 (flat_plain sd) (flat_plain se) (by omega) ⟨.bl _, H, I, rfl, q⟩
theorem prim_eq : Prim2 K (rEqP K) opEq := by
  intro F H v w x y z Q a b e q
  have e : (if flat x = true ∧ flat y = true then some (Rv.d (.bool (PyData.eqv x y))) else none) = some z := e
  by_cases c : flat x = true ∧ flat y = true
  · rw [if_pos c] at e
    cases e
    exact ⟨x, y, a.dp (flat_noDict c.1), b.dp (flat_noDict c.2), c.1, c.2, q _ H Same.rfl' (.bl _)⟩
  · rw [if_neg c] at e
    cases e
theorem prim_ne : Prim2 K (rNeP K) opNe := by
  intro F H v w x y z Q a b e q
  have e : (if flat x = true ∧ flat y = true then some (Rv.d (.bool (!PyData.eqv x y))) else none) = some z := e
  by_cases c : flat x = true ∧ flat y = true
  · rw [if_pos c] at e
    cases e
    exact ⟨x, y, a.dp (flat_noDict c.1), b.dp (flat_noDict c.2), c.1, c.2, q _ H Same.rfl' (.bl _)⟩
  · rw [if_neg c] at e
    cases e
end
end DL
end

section
set_option Elab.async false
set_option linter.all false
set_option maxRecDepth 100000
set_option maxHeartbeats 1000000
/-! DLsnd3: readings of statements, loops, comprehensions, calls. -/
namespace DL
open PySem PySem.Spec PyProof.Rows L2
/-- from one point of a def's run to a later one -/
structure FExt (K : PySem.W.Frag) (H0 : Hp) (F : Addr → Prop) (H : Hp) (F' : Addr → Prop) (H' : Hp) : Prop where
  sub : ∀ a, F a → F' a
  new : ∀ a, F' a → F a ∨ H0 a = none
  fl : ∀ a xs, FL K F H a xs → FL K F' H' a xs
  tup : ∀ a xs, STD K H a xs → STD K H' a xs
def RtOk (K : PySem.W.Frag) (H0 : Hp) (F : Addr → Prop) (H : Hp) : Rt → V → Prop
  | .d x, v => Rp K F H v x
  | .own xs, v => ∃ p vs, v = .ref p ∧ H p = some (.lst vs) ∧ RpAll K F H vs xs ∧ ¬ F p ∧ H0 p = none
def FlOk (K : PySem.W.Frag) (H0 : Hp) (M : Nat → Option Addr) (F : Addr → Prop) (H : Hp) (st' : DSt) (E : Ends) : Fl → Prop
  | .nx => ∀ σ' F' H', Sim K H0 M st' σ' F' H' → FExt K H0 F H F' H' → E.nx σ' H'
  | .bk => ∀ σ' F' H', Sim K H0 M st' σ' F' H' → FExt K H0 F H F' H' → E.bk σ' H'
  | .ct => ∀ σ' F' H', Sim K H0 M st' σ' F' H' → FExt K H0 F H F' H' → E.ct σ' H'
  | .rt r => ∀ v σ' F' H', Sim K H0 M st' σ' F' H' → FExt K H0 F H F' H' → RtOk K H0 F' H' r v → E.rt v H'
def SndS (K : PySem.W.Frag) (t : TS) (g : DS) : Prop := ∀ (H0 : Hp) (M : Nat → Option Addr) (st : DSt) (σ : L2.St) (F : Addr → Prop) (H : Hp) (fl : Fl) (st' : DSt) (E : Ends), Sim K H0 M st σ F H → g st = some (fl, st') →
  FlOk K H0 M F H st' E fl → t E σ H
def SndG (K : PySem.W.Frag) (is : List Nat) (tg : TG) (g : DG) : Prop := ∀ (H0 : Hp) (M : Nat → Option Addr) (st : DSt) (σ : L2.St) (F : Addr → Prop) (H : Hp) (x : D) (v : V) (st' : DSt) (Q : L2.St → Hp → Prop), Sim K H0 M st σ F H → Rp K F H v x → g x st = some st' →
  (∀ σ', Sim K H0 M st' σ' F H → (σ'.length = σ.length ∧ ∀ j, j ∉ is → σ'[j]? = σ[j]?) → (∀ j, IsOwn st' j → IsOwn st j ∧ j ∉ is) → Q σ' H) → tg v σ H Q
def SndGs (K : PySem.W.Frag) (is : List Nat) (tg : TGs) (g : DGs) : Prop := ∀ (H0 : Hp) (M : Nat → Option Addr) (st : DSt) (σ : L2.St) (F : Addr → Prop) (H : Hp) (xs : List D) (vs : List V) (st' : DSt) (Q : L2.St → Hp → Prop), Sim K H0 M st σ F H → RpAll K F H vs xs → g xs st = some st' →
  (∀ σ', Sim K H0 M st' σ' F H → (σ'.length = σ.length ∧ ∀ j, j ∉ is → σ'[j]? = σ[j]?) → (∀ j, IsOwn st' j → IsOwn st j ∧ j ∉ is) → Q σ' H) → tg vs σ H Q
section
variable {K : PySem.W.Frag} {H0 : Hp} {M : Nat → Option Addr} {st st' st2 : DSt} {σ σ' : L2.St} {F F' F2 : Addr → Prop} {H H' H2 H3 Hb Hc : Hp} {v w : V} {r : Rv} {x : PyData} {fl : Fl} {E : Ends}
theorem FExt.refl : FExt K H0 F H F H := ⟨fun _ h => h, fun _ h => .inl h, fun _ _ h => h, fun _ _ h => h⟩
theorem FExt.trans (a : FExt K H0 F H F' H') (b : FExt K H0 F' H' F2 H2) : FExt K H0 F H F2 H2 :=
  ⟨fun c h => b.sub c (a.sub c h), fun c h => (b.new c h).elim (a.new c) .inr, fun c xs h => b.fl c xs (a.fl c xs h), fun c xs h => b.tup c xs (a.tup c xs h)⟩
theorem FExt.rp (E : FExt K H0 F H F' H') (h : Rp K F H v x) : Rp K F' H' v x := h.mono E.fl E.tup
theorem FExt.rpAll (E : FExt K H0 F H F' H') {vs : List V} {xs : List D} (h : RpAll K F H vs xs) : RpAll K F' H' vs xs := h.mono E.fl E.tup
theorem Ext.fext (S : Sim K H0 M st σ F H) (S' : Sim K H0 M st' σ F' H') (E : Ext st σ F H st' F' H') : FExt K H0 F H F' H' := by
  refine ⟨E.sub, fun a h => ?_, fun a xs h => E.fl S h, fun a xs h => E.std S h⟩
  rcases E.new a h with z | z | ⟨i, ⟨xs, z⟩, e⟩
  · exact .inl z
  · exact .inr (S.fresh0 z)
  · rcases z with z | z
    · obtain ⟨p, vs, e1, _, _, _, e2⟩ := S.own i xs z
      rw [e] at e1
      cases e1
      exact .inr e2
    · obtain ⟨p, vs, m, e1, _⟩ := S.lent i xs z
      rw [e] at e1
      cases e1
      obtain ⟨ys, z'⟩ := S'.lentE i _ m
      obtain ⟨p', vs', m', _, _, _, nf⟩ := S'.lent i ys z'
      rw [m] at m'
      cases m'
      exact absurd h nf
theorem FlOk.from (e : FExt K H0 F H F' H') (h : FlOk K H0 M F H st' E fl) : FlOk K H0 M F' H' st' E fl := by
  cases fl with
  | nx => exact fun σ1 F1 H1 S1 e1 => h σ1 F1 H1 S1 (e.trans e1)
  | bk => exact fun σ1 F1 H1 S1 e1 => h σ1 F1 H1 S1 (e.trans e1)
  | ct => exact fun σ1 F1 H1 S1 e1 => h σ1 F1 H1 S1 (e.trans e1)
  | rt r => exact fun v σ1 F1 H1 S1 e1 => h v σ1 F1 H1 S1 (e.trans e1)

/-! ### slots stored -/
theorem σget {i j : Nat} {o : Option V} (hi : i < σ.length) : (σ.set i o)[j]? = if i = j then some o else σ[j]? := by
  rw [List.getElem?_set]
  by_cases h : i = j
  · subst h
    simp [hi]
  · simp [h]
theorem Sim.setD (S : Sim K H0 M st σ F H) {i : Nat} (hi : i < st.length) (nl : ∀ xs, st.getD i none ≠ some (.lent xs)) (r : Rp K F H v x) : Sim K H0 M (st.set i (some (.d x))) (σ.set i (some v)) F H := by
  have hσ : i < σ.length := by rw [S.len]; exact hi
  have own : ∀ j, IsOwn (st.set i (some (.d x))) j → IsOwn st j ∧ i ≠ j := fun j ⟨ys, hj⟩ => by
    rw [getD_set hi] at hj
    by_cases ij : i = j
    · rw [if_pos ij] at hj
      rcases hj with hj | hj <;> cases hj
    · rw [if_neg ij] at hj
      exact ⟨⟨ys, hj⟩, ij⟩
  refine ⟨by rw [List.length_set, List.length_set]; exact S.len, fun j y hj => ?_, fun j ys hj => ?_, fun j ys hj => ?_, fun j q m => ?_, S.lent0, fun j k q a b e1 e2 => ?_, S.frz, S.base⟩
  · rw [getD_set hi] at hj
    rw [σget hσ]
    by_cases ij : i = j
    · rw [if_pos ij] at hj
      cases hj
      exact ⟨v, if_pos ij, r⟩
    · rw [if_neg ij] at hj
      rw [if_neg ij]
      exact S.dat j y hj
  · obtain ⟨_, ij⟩ := own j ⟨ys, .inl hj⟩
    rw [getD_set hi, if_neg ij] at hj
    rw [σget hσ, if_neg ij]
    exact S.own j ys hj
  · obtain ⟨_, ij⟩ := own j ⟨ys, .inr hj⟩
    rw [getD_set hi, if_neg ij] at hj
    rw [σget hσ, if_neg ij]
    exact S.lent j ys hj
  · obtain ⟨ys, h⟩ := S.lentE j q m
    refine ⟨ys, ?_⟩
    rw [getD_set hi, if_neg, h]
    rintro rfl
    exact nl ys h
  · obtain ⟨a, ij⟩ := own j a
    obtain ⟨b, ik⟩ := own k b
    rw [σget hσ, if_neg ij] at e1
    rw [σget hσ, if_neg ik] at e2
    exact S.inj j k q a b e1 e2
theorem Sim.setOwn (S : Sim K H0 M st σ F H) {i : Nat} {p : Addr} {vs : List V} {xs : List D} (hi : i < st.length) (nl : ∀ xs, st.getD i none ≠ some (.lent xs)) (hp : H p = some (.lst vs)) (r : RpAll K F H vs xs) (nf : ¬ F p) (no : ¬ OwnAt st σ p) (h0 : H0 p = none) :
    Sim K H0 M (st.set i (some (.own xs))) (σ.set i (some (.ref p))) F H := by
  have hσ : i < σ.length := by rw [S.len]; exact hi
  have own : ∀ j, i ≠ j → IsOwn (st.set i (some (.own xs))) j → IsOwn st j := fun j ij ⟨ys, hj⟩ => by
    rw [getD_set hi, if_neg ij] at hj
    exact ⟨ys, hj⟩
  refine ⟨by rw [List.length_set, List.length_set]; exact S.len, fun j y hj => ?_, fun j ys hj => ?_, fun j ys hj => ?_, fun j q m => ?_, S.lent0, fun j k q a b e1 e2 => ?_, S.frz, S.base⟩
  · rw [getD_set hi] at hj
    rw [σget hσ]
    by_cases ij : i = j
    · rw [if_pos ij] at hj
      cases hj
    · rw [if_neg ij] at hj
      rw [if_neg ij]
      exact S.dat j y hj
  · rw [getD_set hi] at hj
    rw [σget hσ]
    by_cases ij : i = j
    · rw [if_pos ij] at hj
      cases hj
      exact ⟨p, vs, if_pos ij, hp, r, nf, h0⟩
    · rw [if_neg ij] at hj
      rw [if_neg ij]
      exact S.own j ys hj
  · rw [getD_set hi] at hj
    rw [σget hσ]
    by_cases ij : i = j
    · rw [if_pos ij] at hj
      cases hj
    · rw [if_neg ij] at hj
      rw [if_neg ij]
      exact S.lent j ys hj
  · obtain ⟨ys, h⟩ := S.lentE j q m
    refine ⟨ys, ?_⟩
    rw [getD_set hi, if_neg, h]
    rintro rfl
    exact nl ys h
  · rw [σget hσ] at e1 e2
    by_cases ij : i = j
    · by_cases ik : i = k
      · exact ij.symm.trans ik
      · rw [if_pos ij] at e1
        rw [if_neg ik] at e2
        cases e1
        exact absurd ⟨k, own k ik b, e2⟩ no
    · by_cases ik : i = k
      · rw [if_neg ij] at e1
        rw [if_pos ik] at e2
        cases e2
        exact absurd ⟨j, own j ij a, e1⟩ no
      · rw [if_neg ij] at e1
        rw [if_neg ik] at e2
        exact S.inj j k q (own j ij a) (own k ik b) e1 e2
theorem setS_ok {i : Nat} {s : SV} (e : setS st i s = some st') : i < st.length ∧ (∀ xs, st.getD i none ≠ some (.lent xs)) ∧ st' = st.set i (some s) := by
  have go : ∀ {o : Option DSt}, o = (if i < st.length then some (st.set i (some s)) else none) → o = some st' → i < st.length ∧ st' = st.set i (some s) := fun h h' => by
    rw [h] at h'
    by_cases c : i < st.length
    · rw [if_pos c] at h'
      cases h'
      exact ⟨c, rfl⟩
    · rw [if_neg c] at h'
      cases h'
  unfold setS at e
  cases q : st.getD i none with
  | none =>
    rw [q] at e
    obtain ⟨a, b⟩ := go rfl e
    exact ⟨a, fun xs z => (by cases z), b⟩
  | some t =>
    rw [q] at e
    cases t with
    | lent ys => cases e
    | d y =>
      obtain ⟨a, b⟩ := go rfl e
      exact ⟨a, fun xs z => (by cases z), b⟩
    | own ys =>
      obtain ⟨a, b⟩ := go rfl e
      exact ⟨a, fun xs z => (by cases z), b⟩

/-! ### targets -/
theorem snd_gname {i : Nat} : SndG K [i] (L2.gName i) (gName i) := by
  intro H0 M st σ F H x v st' Q S r e q
  obtain ⟨hi, nl, rfl⟩ := setS_ok e
  refine q _ (S.setD hi nl r) ⟨List.length_set, fun j hj => ?_⟩ fun j ⟨ys, hj⟩ => ?_
  · rw [List.getElem?_set_ne]
    rintro rfl
    exact hj (by simp)
  · rw [getD_set hi] at hj
    by_cases ij : i = j
    · rw [if_pos ij] at hj
      rcases hj with hj | hj <;> cases hj
    · rw [if_neg ij] at hj
      exact ⟨⟨ys, hj⟩, fun z => ij (List.mem_singleton.mp z).symm⟩
theorem snd_gnil : SndGs K [] L2.gNil gNil := by
  intro H0 M st σ F H xs vs st' Q S r e q
  cases r with
  | nil => cases e; exact ⟨rfl, q _ S ⟨rfl, fun _ _ => rfl⟩ fun j h => ⟨h, by simp⟩⟩
  | cons _ _ => cases e
theorem snd_gcons {is js : List Nat} {t : TG} {u : TGs} {g : DG} {h : DGs} (a : SndG K is t g) (b : SndGs K js u h) : SndGs K (is ++ js) (L2.gCons t u) (gCons g h) := by
  intro H0 M st σ F H xs vs st' Q S r e q
  cases r with
  | nil => cases e
  | @cons v vs d ds r1 r2 =>
    obtain ⟨s1, e1, e2⟩ := bs e
    refine ⟨v, vs, rfl, a H0 M st σ F H d v s1 _ S r1 e1 fun σ1 S1 f1 g1 => ?_⟩
    refine b H0 M s1 σ1 F H ds vs st' _ S1 r2 e2 fun σ2 S2 f2 g2 => q σ2 S2 ⟨f2.1.trans f1.1, fun j hj => ?_⟩ fun j h => ?_
    · rw [List.mem_append] at hj
      exact (f2.2 j fun z => hj (.inr z)).trans (f1.2 j fun z => hj (.inl z))
    · obtain ⟨h2, n2⟩ := g2 j h
      obtain ⟨h1, n1⟩ := g1 j h2
      refine ⟨h1, fun z => ?_⟩
      rcases List.mem_append.mp z with z | z
      · exact n1 z
      · exact n2 z
theorem snd_gtup {is : List Nat} {n : Nat} {t : TGs} {h : DGs} (a : SndGs K is t h) : SndG K is (L2.gTup K n t) (gTup n h) := by
  intro H0 M st σ F H x v st' Q S r e q
  cases x with
  | tuple xs =>
    have e : (if xs.length = n then h xs st else none) = some st' := e
    by_cases c : xs.length = n
    · rw [if_pos c] at e
      cases r with
      | @tup p vs ds hs ha => exact ⟨p, vs, rfl, hs, ha.length.trans c, a H0 M st σ F H xs vs st' Q S ha e q⟩
    · rw [if_neg c] at e
      cases e
  | _ => cases e

/-! ### statements -/
theorem snd_next : SndS K tNext dNext := by
  intro H0 M st σ F H fl st' E S e q
  cases e
  exact q σ F H S .refl
theorem snd_break : SndS K tBreak dBreak := by
  intro H0 M st σ F H fl st' E S e q
  cases e
  exact q σ F H S .refl
theorem snd_cont : SndS K tCont dCont := by
  intro H0 M st σ F H fl st' E S e q
  cases e
  exact q σ F H S .refl
theorem snd_never {t : TS} : SndS K t dNever := by
  intro H0 M st σ F H fl st' E S e q
  cases e
theorem snd_seq {t u : TS} {f g : DS} (a : SndS K t f) (b : SndS K u g) : SndS K (tSeq t u) (dSeq f g) := by
  intro H0 M st σ F H fl st' E S e q
  obtain ⟨p, e1, e⟩ := bs e
  obtain ⟨f1, s1⟩ := p
  refine a H0 M st σ F H f1 s1 _ S e1 ?_
  cases f1 with
  | nx => exact fun σ1 F1 H1 S1 x1 => b H0 M s1 σ1 F1 H1 fl st' E S1 e (q.from x1)
  | bk => cases e; exact q
  | ct => cases e; exact q
  | rt r => cases e; exact q
theorem snd_set {i : Nat} {t : TE} {f : DE} (a : SndE K t f) : SndS K (tAsg t (L2.gName i)) (dSet i f) := by
  intro H0 M st σ F H fl st' E S e q
  obtain ⟨p, e1, e⟩ := bs e
  obtain ⟨r, s1⟩ := p
  refine a H0 M st σ F H r s1 _ S e1 fun v F1 H1 S1 E1 f1 r1 => ?_
  have fin : ∀ {F2 : Addr → Prop} {s2 : DSt} {x : D}, Sim K H0 M s2 σ F2 H1 → Ext st σ F H s2 F2 H1 → Rp K F2 H1 v x → ((setS s2 i (.d x)).bind fun s => some (Fl.nx, s)) = some (fl, st') → E.nx (σ.set i (some v)) H1 := fun {F2 s2 x} S2 E2 r2 e2 => by
    obtain ⟨s, e3, e4⟩ := bs e2
    cases e4
    obtain ⟨hi, nl, rfl⟩ := setS_ok e3
    have S3 := S2.setD hi nl r2
    exact q _ F2 H1 S3 (E2.fext S S2)
  cases r with
  | tmp xs =>
    have e : ((setS s1 i (.own xs)).bind fun s => some (Fl.nx, s)) = some (fl, st') := e
    obtain ⟨s, e3, e4⟩ := bs e
    cases e4
    obtain ⟨hi, nl, rfl⟩ := setS_ok e3
    obtain ⟨p, vs, rfl, b, c, nf, no, h0⟩ := r1
    exact q _ F1 H1 (S1.setOwn hi nl b c nf no (S.fresh0 h0)) (E1.fext S S1)
  | d x =>
    have e : ((toD s1 (.d x)).bind fun q => (setS q.2 i (.d q.1)).bind fun s => some (Fl.nx, s)) = some (fl, st') := e
    exact fin S1 E1 r1 e
  | sl j =>
    have e : ((toD s1 (.sl j)).bind fun q => (setS q.2 i (.d q.1)).bind fun s => some (Fl.nx, s)) = some (fl, st') := e
    obtain ⟨p, e2, e3⟩ := bs e
    obtain ⟨F2, S2, E2, r2, _⟩ := toD_ok S1 E1 (RvOk.weak r1) e2
    exact fin S2 E2 r2 e3
theorem snd_asg {is : List Nat} {t : TE} {tg : TG} {f : DE} {g : DG} (a : SndE K t f) (b : SndG K is tg g) : SndS K (tAsg t tg) (dAsg g f) := by
  intro H0 M st σ F H fl st' E S e q
  obtain ⟨p, e1, e⟩ := bs e
  obtain ⟨w, e2, e⟩ := bs e
  obtain ⟨s, e3, e⟩ := bs e
  cases e
  refine a H0 M st σ F H p.1 p.2 _ S e1 fun v F1 H1 S1 E1 f1 r1 => ?_
  obtain ⟨F2, S2, E2, r2, _⟩ := toD_ok S1 E1 r1.weak e2
  exact b H0 M w.2 σ F2 H1 w.1 v st' _ S2 r2 e3 fun σ' S3 _ _ => q σ' F2 H1 S3 (E2.fext S S2)
theorem snd_par2 {i j : Nat} {t : TA} {f : DA} (a : SndA K t f) : SndS K (tPar i j t) (dPar [i, j] f) := by
  intro H0 M st σ F H fl st' E S e q
  obtain ⟨p, e1, e⟩ := bs e
  obtain ⟨w, e2, e⟩ := bs e
  obtain ⟨s, e3, e⟩ := bs e
  cases e
  refine a H0 M st σ F H p.1 p.2 _ S e1 fun vs F1 H1 S1 E1 f1 r1 => ?_
  obtain ⟨F2, S2, E2, rr, _⟩ := toDs_ok S1 E1 r1 e2
  obtain ⟨ws, s2⟩ := w
  match ws, vs, rr, e3 with
  | [x, y], [v1, v2], .cons r1 (.cons r2 .nil), e3 =>
    obtain ⟨s3, e4, e5⟩ := bs e3
    obtain ⟨hi, nl, rfl⟩ := setS_ok e4
    obtain ⟨s4, e6, e7⟩ := bs e5
    obtain ⟨hj, nl2, rfl⟩ := setS_ok e6
    cases e7
    exact ⟨v1, v2, rfl, q _ F2 H1 ((S2.setD hi nl r1).setD hj nl2 r2) (E2.fext S S2)⟩
  | [], _, _, e3 => cases e3
  | [x], _, _, e3 =>
    obtain ⟨s3, e4, e5⟩ := bs e3
    cases e5
  | x :: y :: z :: r, _, _, e3 =>
    obtain ⟨s3, e4, e5⟩ := bs e3
    obtain ⟨s4, e6, e7⟩ := bs e5
    cases e7
theorem snd_par3 {i j l : Nat} {t : TA} {f : DA} (a : SndA K t f) : SndS K (tPar3 i j l t) (dPar [i, j, l] f) := by
  intro H0 M st σ F H fl st' E S e q
  obtain ⟨p, e1, e⟩ := bs e
  obtain ⟨w, e2, e⟩ := bs e
  obtain ⟨s, e3, e⟩ := bs e
  cases e
  refine a H0 M st σ F H p.1 p.2 _ S e1 fun vs F1 H1 S1 E1 f1 r1 => ?_
  obtain ⟨F2, S2, E2, rr, _⟩ := toDs_ok S1 E1 r1 e2
  obtain ⟨ws, s2⟩ := w
  match ws, vs, rr, e3 with
  | [x, y, z], [v1, v2, v3], .cons r1 (.cons r2 (.cons r3 .nil)), e3 =>
    obtain ⟨s3, e4, e5⟩ := bs e3
    obtain ⟨hi, nl, rfl⟩ := setS_ok e4
    obtain ⟨s4, e6, e7⟩ := bs e5
    obtain ⟨hj, nl2, rfl⟩ := setS_ok e6
    obtain ⟨s5, e8, e9⟩ := bs e7
    obtain ⟨hl, nl3, rfl⟩ := setS_ok e8
    cases e9
    exact ⟨v1, v2, v3, rfl, q _ F2 H1 (((S2.setD hi nl r1).setD hj nl2 r2).setD hl nl3 r3) (E2.fext S S2)⟩
  | [], _, _, e3 => cases e3
  | [x], _, _, e3 =>
    obtain ⟨s3, e4, e5⟩ := bs e3
    cases e5
  | [x, y], _, _, e3 =>
    obtain ⟨s3, e4, e5⟩ := bs e3
    obtain ⟨s4, e6, e7⟩ := bs e5
    cases e7
  | x :: y :: z :: u :: r, _, _, e3 =>
    obtain ⟨s3, e4, e5⟩ := bs e3
    obtain ⟨s4, e6, e7⟩ := bs e5
    obtain ⟨s5, e8, e9⟩ := bs e7
    cases e9
theorem snd_drop {t : TE} {f : DE} (a : SndE K t f) : SndS K (tDrop t) (dDrop f) := by
  intro H0 M st σ F H fl st' E S e q
  obtain ⟨p, e1, e⟩ := bs e
  cases e
  exact a H0 M st σ F H p.1 p.2 _ S e1 fun v F1 H1 S1 E1 f1 r1 => q σ F1 H1 S1 (E1.fext S S1)
theorem Sim.forget (S : Sim K H0 M st σ F H) {i : Nat} (nl : ∀ xs, st.getD i none ≠ some (.lent xs)) : Sim K H0 M (st.set i none) σ F H := by
  by_cases hi : i < st.length
  · have own : ∀ j, IsOwn (st.set i none) j → IsOwn st j := fun j ⟨ys, hj⟩ => by
      rw [getD_set hi] at hj
      by_cases ij : i = j
      · rw [if_pos ij] at hj
        rcases hj with hj | hj <;> cases hj
      · rw [if_neg ij] at hj
        exact ⟨ys, hj⟩
    have back : ∀ j s, (st.set i none).getD j none = some s → st.getD j none = some s := fun j s hj => by
      rw [getD_set hi] at hj
      by_cases ij : i = j
      · rw [if_pos ij] at hj
        cases hj
      · rw [if_neg ij] at hj
        exact hj
    refine ⟨by rw [List.length_set]; exact S.len, fun j y hj => S.dat j y (back j _ hj), fun j ys hj => S.own j ys (back j _ hj), fun j ys hj => S.lent j ys (back j _ hj), fun j q m => ?_, S.lent0, fun j k q a b => S.inj j k q (own j a) (own k b), S.frz, S.base⟩
    obtain ⟨ys, h⟩ := S.lentE j q m
    refine ⟨ys, ?_⟩
    rw [getD_set hi, if_neg, h]
    rintro rfl
    exact nl ys h
  · rw [List.set_eq_of_length_le (by omega)]
    exact S
theorem snd_ret {t : TE} {f : DE} (a : SndE K t f) : SndS K (tRet t) (dRet f) := by
  intro H0 M st σ F H fl st' E S e q
  obtain ⟨p, e1, e⟩ := bs e
  obtain ⟨r, s1⟩ := p
  refine a H0 M st σ F H r s1 _ S e1 fun v F1 H1 S1 E1 f1 r1 => ?_
  cases r with
  | d x => cases e; exact q v σ F1 H1 S1 (E1.fext S S1) r1
  | tmp xs =>
    cases e
    obtain ⟨p, vs, rfl, b, c, nf, no, h0⟩ := r1
    exact q _ σ F1 H1 S1 (E1.fext S S1) ⟨p, vs, rfl, b, c, nf, S.fresh0 h0⟩
  | sl i =>
    have r1 : σ[i]? = some (some v) := r1
    have e : (match s1.getD i none with
      | some (.d x) => some (Fl.rt (.d x), s1)
      | some (.own xs) => some (Fl.rt (.own xs), s1.set i none)
      | _ => none) = some (fl, st') := e
    cases g : s1.getD i none with
    | none => rw [g] at e; cases e
    | some s =>
      rw [g] at e
      cases s with
      | d x =>
        cases e
        obtain ⟨v', e1, r2⟩ := S1.dat i x g
        rw [r1] at e1
        cases e1
        exact q v σ F1 H1 S1 (E1.fext S S1) r2
      | own xs =>
        cases e
        obtain ⟨p, vs, e1, e2, r2, nf, h0⟩ := S1.own i xs g
        rw [r1] at e1
        cases e1
        exact q _ σ F1 H1 (S1.forget fun ys z => by rw [g] at z; cases z) (E1.fext S S1) ⟨p, vs, rfl, e2, r2, nf, h0⟩
      | lent xs => cases e
theorem snd_retN : SndS K tRetN dRetN := by
  intro H0 M st σ F H fl st' E S e q
  cases e
  exact q .non σ F H S .refl .non
theorem snd_ifS {t : TT} {u w : TS} {c : DT} {f g : DS} (a : SndT K t c) (b : SndS K u f) (d : SndS K w g) : SndS K (tIfS t u w) (dIfS c f g) := by
  intro H0 M st σ F H fl st' E S e q
  obtain ⟨p, e1, e⟩ := bs e
  refine a H0 M st σ F H p.1 p.2 _ S e1 fun F1 H1 S1 E1 f1 => ?_
  by_cases h : p.1 = true
  · rw [if_pos h] at e
    rw [if_pos h]
    exact b H0 M p.2 σ F1 H1 fl st' E S1 e (q.from (E1.fext S S1))
  · rw [if_neg h] at e
    rw [if_neg h]
    exact d H0 M p.2 σ F1 H1 fl st' E S1 e (q.from (E1.fext S S1))

/-! ### changing a list of one's own -/
theorem getL_ok {i : Nat} {xs : List D} (S : Sim K H0 M st σ F H) (e : getL st i = some xs) : ∃ p vs, σ[i]? = some (some (.ref p)) ∧ H p = some (.lst vs) ∧ RpAll K F H vs xs ∧ IsOwn st i := by
  unfold getL at e
  cases g : st.getD i none with
  | none => rw [g] at e; cases e
  | some s =>
    rw [g] at e
    cases s with
    | d x => cases e
    | own ys =>
      cases e
      obtain ⟨p, vs, a, b, c, _⟩ := S.own i _ g
      exact ⟨p, vs, a, b, c, _, .inl g⟩
    | lent ys =>
      cases e
      obtain ⟨p, vs, _, a, b, c, _⟩ := S.lent i _ g
      exact ⟨p, vs, a, b, c, _, .inr g⟩
/-- the list at slot i is another one now -/
theorem Sim.put (S : Sim K H0 M st σ F H) {i : Nat} {p : Addr} {vs : List V} {xs : List D} (o : IsOwn st i) (e : σ[i]? = some (some (.ref p))) (r : RpAll K F H vs xs) (pu : putL st i xs = some st') : Sim K H0 M st' σ F (upd H p (.lst vs)) ∧ FExt K H0 F H F (upd H p (.lst vs)) := by
  have at_ : OwnAt st σ p := ⟨i, o, e⟩
  obtain ⟨⟨old, hp⟩, nf⟩ := S.atOwn at_
  have flk : ∀ a ys, FL K F H a ys → FL K F (upd H p (.lst vs)) a ys := fun a ys h => by
    rcases h with ⟨f, h⟩ | ⟨ob, h⟩ | h
    · exact .inl ⟨f, by rw [upd_ne (by rintro rfl; exact nf f)]; exact h⟩
    · exact .inr (.inl ⟨ob, by rw [upd_ne (by rintro rfl; rw [hp] at h; cases h)]; exact h⟩)
    · exact .inr (.inr h)
  have sqk : ∀ a ys, STD K H a ys → STD K (upd H p (.lst vs)) a ys := fun a ys h => stD_up (fun b u e1 nl => by
    rw [upd_ne]
    · exact e1
    · rintro rfl
      rw [hp] at e1
      cases e1
      exact nl _ rfl) h
  refine ⟨?_, ⟨fun _ h => h, fun _ h => .inl h, flk, sqk⟩⟩
  have hi : i < st.length := by
    obtain ⟨ys, h | h⟩ := o
    · exact getD_lt h
    · exact getD_lt h
  -- the slots
  have sp : (∃ ys, st.getD i none = some (.own ys) ∧ st' = st.set i (some (.own xs))) ∨ (∃ ys, st.getD i none = some (.lent ys) ∧ st' = st.set i (some (.lent xs))) := by
    unfold putL at pu
    obtain ⟨ys, h | h⟩ := o
    · rw [h] at pu
      cases pu
      exact .inl ⟨ys, h, rfl⟩
    · rw [h] at pu
      cases pu
      exact .inr ⟨ys, h, rfl⟩
  have other : ∀ j, i ≠ j → st'.getD j none = st.getD j none := fun j ij => by
    rcases sp with ⟨ys, _, rfl⟩ | ⟨ys, _, rfl⟩
    · rw [getD_set hi, if_neg ij]
    · rw [getD_set hi, if_neg ij]
  have len : st'.length = st.length := by
    rcases sp with ⟨ys, _, rfl⟩ | ⟨ys, _, rfl⟩ <;> rw [List.length_set]
  have own : ∀ j, IsOwn st' j → IsOwn st j := fun j h => by
    by_cases ij : i = j
    · subst ij
      exact o
    · obtain ⟨ys, h⟩ := h
      rw [other j ij] at h
      exact ⟨ys, h⟩
  have pne : ∀ {j q}, i ≠ j → IsOwn st j → σ[j]? = some (some (.ref q)) → q ≠ p := fun {j q} ij oj ej z => by
    subst z
    exact ij (S.inj i j q o oj e ej)
  refine ⟨S.len.trans len.symm, fun j y hj => ?_, fun j ys hj => ?_, fun j ys hj => ?_, fun j q m => ?_, S.lent0, fun j k q a b => S.inj j k q (own j a) (own k b), fun a h => ?_, fun b u h n => ?_⟩
  · have ij : i ≠ j := by
      rintro rfl
      rcases sp with ⟨_, _, rfl⟩ | ⟨_, _, rfl⟩
      · rw [getD_set hi, if_pos rfl] at hj; cases hj
      · rw [getD_set hi, if_pos rfl] at hj; cases hj
    rw [other j ij] at hj
    obtain ⟨v, a, b⟩ := S.dat j y hj
    exact ⟨v, a, b.mono flk sqk⟩
  · by_cases ij : i = j
    · subst ij
      rcases sp with ⟨zs, g, rfl⟩ | ⟨_, _, rfl⟩
      · rw [getD_set hi, if_pos rfl] at hj
        cases hj
        obtain ⟨q, ws, a, b, c, d, f⟩ := S.own i zs g
        rw [e] at a
        cases a
        exact ⟨p, vs, e, upd_same, r.mono flk sqk, d, f⟩
      · rw [getD_set hi, if_pos rfl] at hj; cases hj
    · rw [other j ij] at hj
      obtain ⟨q, ws, a, b, c, d, f⟩ := S.own j ys hj
      exact ⟨q, ws, a, by rw [upd_ne (pne ij ⟨ys, .inl hj⟩ a)]; exact b, c.mono flk sqk, d, f⟩
  · by_cases ij : i = j
    · subst ij
      rcases sp with ⟨_, _, rfl⟩ | ⟨zs, g, rfl⟩
      · rw [getD_set hi, if_pos rfl] at hj; cases hj
      · rw [getD_set hi, if_pos rfl] at hj
        cases hj
        obtain ⟨q, ws, m, a, b, c, d⟩ := S.lent i zs g
        rw [e] at a
        cases a
        exact ⟨p, vs, m, e, upd_same, r.mono flk sqk, d⟩
    · rw [other j ij] at hj
      obtain ⟨q, ws, m, a, b, c, d⟩ := S.lent j ys hj
      exact ⟨q, ws, m, a, by rw [upd_ne (pne ij ⟨ys, .inr hj⟩ a)]; exact b, c.mono flk sqk, d⟩
  · obtain ⟨ys, h⟩ := S.lentE j q m
    by_cases ij : i = j
    · subst ij
      rcases sp with ⟨_, g, _⟩ | ⟨_, _, rfl⟩
      · rw [h] at g; cases g
      · exact ⟨xs, by rw [getD_set hi, if_pos rfl]⟩
    · exact ⟨ys, by rw [other j ij]; exact h⟩
  · by_cases ap : a = p
    · subst ap
      exact absurd h nf
    · rw [upd_ne ap]
      exact S.frz a h
  · by_cases bp : b = p
    · subst bp
      rcases sp with ⟨ys, g, _⟩ | ⟨ys, g, _⟩
      · obtain ⟨q, ws, a, _, _, _, f⟩ := S.own i ys g
        rw [e] at a
        cases a
        rw [h] at f
        cases f
      · obtain ⟨q, ws, m, a, _⟩ := S.lent i ys g
        rw [e] at a
        cases a
        exact absurd m (n i)
    · rw [upd_ne bp]
      exact S.base b u h n
/-- xs.append(e) -/
theorem snd_append {i : Nat} {te : TE} {f : DE} (a : SndE K te f) : SndS K (tDrop (tBM K "list" rAppend (tVar i) (tCons te tNil))) (dAppend i f) := by
  intro H0 M st σ F H fl st' E S e q
  obtain ⟨zs, e0, e⟩ := bs e
  obtain ⟨p, e1, e⟩ := bs e
  obtain ⟨w, e2, e⟩ := bs e
  obtain ⟨xs, e3, e⟩ := bs e
  have e : (if xs.length < sizeLine then (putL w.2 i (xs ++ [w.1])).bind fun s => some (Fl.nx, s) else none) = some (fl, st') := e
  by_cases c : xs.length < sizeLine
  · rw [if_pos c] at e
    obtain ⟨s, e4, e⟩ := bs e
    cases e
    obtain ⟨p0, vs0, a1, a2, _⟩ := getL_ok S e0
    refine ⟨.ref p0, a1, .inl ⟨rfl, _, SqL.of a2⟩, ?_⟩
    refine a H0 M st σ F H p.1 p.2 _ S e1 fun v F1 H1 S1 E1 f1 r1 => ?_
    obtain ⟨F2, S2, E2, r2, _⟩ := toD_ok S1 E1 r1.weak e2
    obtain ⟨p1, vs, b1, b2, b3, o⟩ := getL_ok S2 e3
    rw [a1] at b1
    cases b1
    obtain ⟨S3, E3⟩ := S2.put o a1 (b3.snoc r2) e4
    exact ⟨p0, vs, v, rfl, rfl, b2, by rw [b3.length]; exact c, q σ F2 _ S3 ((E2.fext S S2).trans E3)⟩
  · rw [if_neg c] at e
    cases e
end
end DL
end

section
set_option Elab.async false
set_option linter.all false
set_option maxRecDepth 100000
set_option maxHeartbeats 1000000
/-! DLsnd4: stores into lists, loops, comprehensions. -/
namespace DL
open PySem PySem.Spec PyProof.Rows L2
section
variable {K : PySem.W.Frag} {H0 : Hp} {M : Nat → Option Addr} {st st' st2 : DSt} {σ σ' : L2.St} {F F' F2 : Addr → Prop} {H H' H2 H3 Hb Hc : Hp} {v w : V} {r : Rv} {x : PyData} {fl : Fl} {E : Ends}
theorem ixAt_eq {α : Type} (xs : List α) (i : Int) : ixAt xs i = ixN xs.length i := rfl
/-- xs[k] = e -/
theorem snd_setIx {i : Nat} {tk te : TE} {k f : DE} (b : SndE K tk k) (a : SndE K te f) : SndS K (tAsg te (gSub (tVar i) tk rSetL)) (dSetIx i k f) := by
  intro H0 M st σ F H fl st' E S e q
  obtain ⟨p, e1, e⟩ := bs e
  obtain ⟨w, e2, e⟩ := bs e
  obtain ⟨zs, e0, e⟩ := bs e
  obtain ⟨u, e3, e⟩ := bs e
  refine a H0 M st σ F H p.1 p.2 _ S e1 fun v F1 H1 S1 E1 f1 r1 => ?_
  obtain ⟨F2, S2, E2, r2, _⟩ := toD_ok S1 E1 r1.weak e2
  obtain ⟨p0, vs0, a1, a2, _⟩ := getL_ok S2 e0
  refine ⟨.ref p0, a1, ?_⟩
  refine b H0 M w.2 σ F2 H1 u.1 u.2 _ S2 e3 fun v3 F3 H3 S3 E3 f3 r3 => ?_
  cases g : look u.2 u.1 with
  | none => rw [g] at e; cases e
  | some y =>
    rw [g] at e
    cases y with
    | int j =>
      have e : ((getL u.2 i).bind fun xs => (ixAt xs j).bind fun n => (putL u.2 i (xs.set n w.1)).bind fun s => some (Fl.nx, s)) = some (fl, st') := e
      obtain ⟨xs, e4, e⟩ := bs e
      obtain ⟨n, e5, e⟩ := bs e
      obtain ⟨s, e6, e⟩ := bs e
      cases e
      obtain ⟨p1, vs, b1, b2, b3, o⟩ := getL_ok S3 e4
      rw [a1] at b1
      cases b1
      have kv := (look_ok S3 r3.weak g).int
      obtain ⟨S4, E4⟩ := S3.put o a1 (b3.set (E3.rp S2 r2) n) e6
      refine ⟨p0, vs, j, n, rfl, kv, b2, ?_, q σ F3 _ S4 (((E2.fext S S2).trans (E3.fext S2 S3)).trans E4)⟩
      rw [b3.length, ← ixAt_eq]
      exact e5
    | _ => cases e
/-- xs[k] op= e -/
theorem snd_augIx {i : Nat} {tk te : TE} {k f : DE} {tip : TIp} {op : D → D → Option Rv} (hp : Prim2 K tip op) (b : SndE K tk k) (a : SndE K te f) : SndS K (tAugS (tVar i) tk te (rIxL K) tip rSetL) (dAugIx op i k f) := by
  intro H0 M st σ F H fl st' E S e q
  obtain ⟨zs, e0, e⟩ := bs e
  obtain ⟨u, e3, e⟩ := bs e
  obtain ⟨p0, vs0, a1, a2, _⟩ := getL_ok S e0
  refine ⟨.ref p0, a1, ?_⟩
  refine b H0 M st σ F H u.1 u.2 _ S e3 fun v3 F3 H3 S3 E3 f3 r3 => ?_
  cases g : look u.2 u.1 with
  | none => rw [g] at e; cases e
  | some y =>
    rw [g] at e
    cases y with
    | int j =>
      have e : ((getL u.2 i).bind fun xs => (ixAt xs j).bind fun n => (xs[n]?).bind fun x => (f u.2).bind fun p => (look p.2 p.1).bind fun y =>
        match op x y with
        | some (.d z) => (getL p.2 i).bind fun ys => (ixAt ys j).bind fun n' => (putL p.2 i (ys.set n' z)).bind fun s => some (Fl.nx, s)
        | _ => none) = some (fl, st') := e
      obtain ⟨xs, e4, e⟩ := bs e
      obtain ⟨n, e5, e⟩ := bs e
      obtain ⟨x, e6, e⟩ := bs e
      obtain ⟨p, e7, e⟩ := bs e
      obtain ⟨y, e8, e⟩ := bs e
      obtain ⟨p1, vs, b1, b2, b3, o⟩ := getL_ok S3 e4
      rw [a1] at b1
      cases b1
      have kv := (look_ok S3 r3.weak g).int
      obtain ⟨vx, gx, rx⟩ := b3.get e6
      refine ⟨p0, vs, j, vx, rfl, kv, SqL.of b2, ?_, ?_⟩
      · show (ixN vs.length j).bind (fun n => vs[n]?) = some vx
        rw [b3.length, ← ixAt_eq, e5]
        exact gx
      · refine a H0 M u.2 σ F3 H3 p.1 p.2 _ S3 e7 fun v4 F4 H4 S4 E4 f4 r4 => ?_
        cases z : op x y with
        | none => rw [z] at e; cases e
        | some rv =>
          rw [z] at e
          cases rv with
          | d zd =>
            have e : ((getL p.2 i).bind fun ys => (ixAt ys j).bind fun n' => (putL p.2 i (ys.set n' zd)).bind fun s => some (Fl.nx, s)) = some (fl, st') := e
            obtain ⟨ys, e9, e⟩ := bs e
            obtain ⟨n', e10, e⟩ := bs e
            obtain ⟨s, e11, e⟩ := bs e
            cases e
            refine hp F4 H4 vx v4 x y (.d zd) _ (.inl (E4.rp S3 rx)) (look_ok S4 r4.weak e8) z fun v5 H5 s5 n5 => ?_
            obtain ⟨S5, E5, r5⟩ := fin_new (z := .d zd) S4 (E3.trans E4) s5 n5
            obtain ⟨p2, ws, c1, c2, c3, o'⟩ := getL_ok S5 e9
            rw [a1] at c1
            cases c1
            obtain ⟨S6, E6⟩ := S5.put o' a1 (c3.set r5 n') e11
            refine ⟨p0, ws, j, n', rfl, kv, c2, ?_, q σ F4 _ S6 ((E5.fext S S5).trans E6)⟩
            rw [c3.length, ← ixAt_eq]
            exact e10
          | tmp _ => cases e
          | sl _ => cases e
    | _ => cases e
/-- x op= e -/
theorem snd_aug {i : Nat} {te : TE} {f : DE} {tip : TIp} {op : D → D → Option Rv} (hp : Prim2 K tip op) (a : SndE K te f) : SndS K (tAug i te tip) (dAug op i f) := by
  intro H0 M st σ F H fl st' E S e q
  obtain ⟨⟨rv, s0⟩, e1, e⟩ := bs e
  obtain ⟨p, e2, e⟩ := bs e
  have hv : s0 = st ∧ (∀ x, rv = .d x → ∃ w, σ[i]? = some (some w) ∧ Rp K F H w x) := by
    have e1 : (match st.getD i none with
      | some (.d x) => some (Rv.d x, st)
      | some (.own _) => some (.sl i, st)
      | some (.lent _) => some (.sl i, st)
      | none => none) = some (rv, s0) := e1
    cases g : st.getD i none with
    | none => rw [g] at e1; cases e1
    | some s =>
      rw [g] at e1
      cases s with
      | d x =>
        cases e1
        exact ⟨rfl, fun y h => by cases h; exact S.dat i x g⟩
      | own xs => cases e1; exact ⟨rfl, fun y h => by cases h⟩
      | lent xs => cases e1; exact ⟨rfl, fun y h => by cases h⟩
  obtain ⟨hs, hv⟩ := hv
  have e2' : f s0 = some p := e2
  rw [hs] at e2'
  cases rv with
  | d x =>
    have e : ((look p.2 p.1).bind fun y => match op x y with
      | some (.d z) => (setS p.2 i (.d z)).bind fun s => some (Fl.nx, s)
      | _ => none) = some (fl, st') := e
    obtain ⟨y, e3, e⟩ := bs e
    obtain ⟨w, a1, rw'⟩ := hv x rfl
    refine ⟨w, a1, ?_⟩
    refine a H0 M st σ F H p.1 p.2 _ S e2' fun v1 F1 H1 S1 E1 f1 r1 => ?_
    cases z : op x y with
    | none => rw [z] at e; cases e
    | some ru =>
      rw [z] at e
      cases ru with
      | d zd =>
        have e : ((setS p.2 i (.d zd)).bind fun s => some (Fl.nx, s)) = some (fl, st') := e
        obtain ⟨s, e4, e⟩ := bs e
        cases e
        obtain ⟨hi, nl, rfl⟩ := setS_ok e4
        refine hp F1 H1 w v1 x y (.d zd) _ (.inl (E1.rp S rw')) (look_ok S1 r1.weak e3) z fun v5 H5 s5 n5 => ?_
        obtain ⟨S5, E5, r5⟩ := fin_new (z := .d zd) S1 E1 s5 n5
        exact q _ F1 H5 (S5.setD hi nl r5) (E5.fext S S5)
      | tmp _ => cases e
      | sl _ => cases e
  | tmp _ => cases e
  | sl _ => cases e

/-! ### walked things -/
/-- while this holds of the heap the walk goes on -/
def Gd (K : PySem.W.Frag) (F1 : Addr → Prop) (H1 : Hp) (H : Hp) : Prop := (∀ a xs, FL K F1 H1 a xs → SqL K H a xs) ∧ ∀ a xs, STD K H1 a xs → STD K H a xs
structure WalkD (K : PySem.W.Frag) (J : It) (ds : List D) (F1 : Addr → Prop) (H1 : Hp) : Prop where
  goes : ∀ i H, i < ds.length → Gd K F1 H1 H → J.go i H
  stops : ∀ H, Gd K F1 H1 H → J.stop ds.length H
  yields : ∀ i H x H' (F : Addr → Prop), i < ds.length → Gd K F1 H1 H → (∀ v d, Rp K F1 H1 v d → Rp K F H v d) → J.yld i H x H' → Same H H' ∧ ∃ d, ds[i]? = some d ∧ Rp K F H' x d
theorem FExt.gd (e : FExt K H0 F H F' H') : Gd K F H H' := ⟨fun a xs h => (e.fl a xs h).sql, e.tup⟩
def SndI (K : PySem.W.Frag) (wi : TI) (f : DI) : Prop := ∀ (H0 : Hp) (M : Nat → Option Addr) (st : DSt) (σ : L2.St) (F : Addr → Prop) (H : Hp) (ds : List D) (st' : DSt) (R : It → Hp → Prop), Sim K H0 M st σ F H → f st = some (ds, st') →
  (∀ J F' H', Sim K H0 M st' σ F' H' → Ext st σ F H st' F' H' → WalkD K J ds F' H' → R J H') → wi σ H R
theorem snd_for {is : List Nat} {wi : TI} {tg : TG} {tb : TS} {it : DI} {g : DG} {b : DS} (a : SndI K wi it) (c : SndG K is tg g) (d : SndS K tb b) : SndS K (tFor wi tg tb) (dFor it g b) := by
  intro H0 M st σ F H fl st' E S e q
  obtain ⟨p, e1, e⟩ := bs e
  refine a H0 M st σ F H p.1 p.2 _ S e1 fun J F1 H1 S1 E1 W => ?_
  have x1 := E1.fext S S1
  refine ⟨fun i m σ' H' => i + m = p.1.length ∧ ∃ s' F', Sim K H0 M s' σ' F' H' ∧ FExt K H0 F1 H1 F' H' ∧ forGo g b (p.1.drop i) s' = some (fl, st'), ⟨p.1.length, by simp, p.2, F1, S1, .refl, e⟩, ?_⟩
  rintro i m σ' H' ⟨him, s', F', S', x', e'⟩
  by_cases hi : i < p.1.length
  · refine .inr ⟨W.goes i H' hi x'.gd, fun σ2 H2 => ∃ s2 F2, Sim K H0 M s2 σ2 F2 H2 ∧ FExt K H0 F1 H1 F2 H2 ∧ forGo g b (p.1.drop (i + 1)) s2 = some (fl, st'), fun σ2 H2 ⟨s2, F2, h1, h2, h3⟩ => ⟨m - 1, by omega, by omega, s2, F2, h1, h2, h3⟩, fun x H2 y => ?_⟩
    obtain ⟨sm, dd, gd, rx⟩ := W.yields i H' x H2 F' hi x'.gd (fun v d h => x'.rp h) y
    have hdrop : p.1.drop i = dd :: p.1.drop (i + 1) := by
      obtain ⟨h, e⟩ := List.getElem?_eq_some_iff.mp gd
      rw [List.drop_eq_getElem_cons h, e]
    rw [hdrop] at e'
    obtain ⟨s3, e3, e'⟩ := bs e'
    obtain ⟨w, e4, e'⟩ := bs e'
    have S2 := S'.grow sm
    have x2 : FExt K H0 F1 H1 F' H2 := x'.trans ((Ext.grow sm).fext S' S2)
    refine c H0 M s' σ' F' H2 dd x s3 _ S2 rx e3 fun σ3 S3 _ _ => ?_
    refine d H0 M s3 σ3 F' H2 w.1 w.2 _ S3 e4 ?_
    obtain ⟨wf, ws⟩ := w
    cases wf with
    | nx => exact fun σ4 F4 H4 S4 x4 => ⟨ws, F4, S4, x2.trans x4, e'⟩
    | ct => exact fun σ4 F4 H4 S4 x4 => ⟨ws, F4, S4, x2.trans x4, e'⟩
    | bk =>
      cases e'
      exact fun σ4 F4 H4 S4 x4 => q σ4 F4 H4 S4 (x1.trans (x2.trans x4))
    | rt r =>
      cases e'
      exact fun v σ4 F4 H4 S4 x4 r4 => q v σ4 F4 H4 S4 (x1.trans (x2.trans x4)) r4
  · have hl : i = p.1.length := by omega
    subst hl
    rw [List.drop_length] at e'
    cases e'
    exact .inl ⟨W.stops H' x'.gd, q σ' F' H' S' (x1.trans x')⟩
theorem snd_while {tt : TT} {tb : TS} {t : DT} {b : DS} (a : SndT K tt t) (d : SndS K tb b) : SndS K (tWhile tt tb) (dWhile t b) := by
  intro H0 M st σ F H fl st' E S e q
  have hex : ∃ n, whileN t b n st = some (fl, st') := by
    unfold dWhile at e
    by_cases h : ∃ n r, whileN t b n st = some r
    · rw [dif_pos h] at e
      have := Classical.choose_spec (Classical.choose_spec h)
      exact ⟨Classical.choose h, by rw [this]; exact e⟩
    · rw [dif_neg h] at e
      cases e
  obtain ⟨n, e⟩ := hex
  refine ⟨fun m σ' H' => ∃ s' F', Sim K H0 M s' σ' F' H' ∧ FExt K H0 F H F' H' ∧ whileN t b m s' = some (fl, st'), ⟨n, st, F, S, .refl, e⟩, ?_⟩
  rintro m σ' H' ⟨s', F', S', x', e'⟩
  cases m with
  | zero => cases e'
  | succ m =>
    obtain ⟨u, e1, e'⟩ := bs e'
    refine a H0 M s' σ' F' H' u.1 u.2 _ S' e1 fun F1 H1 S1 E1 f1 => ?_
    have x1 := x'.trans (E1.fext S' S1)
    by_cases c : u.1 = true
    · rw [if_pos c] at e'
      rw [if_pos c]
      obtain ⟨w, e2, e'⟩ := bs e'
      refine ⟨fun σ2 H2 => ∃ s2 F2, Sim K H0 M s2 σ2 F2 H2 ∧ FExt K H0 F H F2 H2 ∧ whileN t b m s2 = some (fl, st'), fun σ2 H2 h => ⟨m, Nat.lt_succ_self m, h⟩, ?_⟩
      refine d H0 M u.2 σ' F1 H1 w.1 w.2 _ S1 e2 ?_
      obtain ⟨wf, ws⟩ := w
      cases wf with
      | nx => exact fun σ4 F4 H4 S4 x4 => ⟨ws, F4, S4, x1.trans x4, e'⟩
      | ct => exact fun σ4 F4 H4 S4 x4 => ⟨ws, F4, S4, x1.trans x4, e'⟩
      | bk =>
        cases e'
        exact fun σ4 F4 H4 S4 x4 => q σ4 F4 H4 S4 (x1.trans x4)
      | rt r =>
        cases e'
        exact fun v σ4 F4 H4 S4 x4 r4 => q v σ4 F4 H4 S4 (x1.trans x4) r4
    · rw [if_neg c] at e'
      rw [if_neg c]
      cases e'
      exact q σ' F1 H1 S1 x1

/-! ### comprehensions -/
theorem wipeD_len (s : DSt) : ∀ vs : List Nat, (wipeD s vs).length = s.length
  | [] => rfl
  | v :: vs => by unfold wipeD; rw [List.length_set, wipeD_len s vs]
theorem wipe_get (s : L2.St) : ∀ (vs : List Nat) (j : Nat), j ∉ vs → (wipe s vs)[j]? = s[j]?
  | [], _, _ => rfl
  | v :: vs, j, h => by
    unfold wipe
    rw [List.getElem?_set_ne (by rintro rfl; exact h (by simp))]
    exact wipe_get s vs j fun z => h (by simp [z])
theorem wipe_in (s : L2.St) : ∀ (vs : List Nat) (j : Nat), j ∈ vs → j < s.length → (wipe s vs)[j]? = some none
  | [], _, h, _ => by simp at h
  | v :: vs, j, h, hl => by
    unfold wipe
    by_cases e : v = j
    · subst e
      rw [List.getElem?_set_self (by rw [wipe_length]; exact hl)]
    · rw [List.getElem?_set_ne e]
      refine wipe_in s vs j ?_ hl
      rcases List.mem_cons.mp h with z | z
      · exact absurd z.symm e
      · exact z
theorem wipe_ext {s s' : L2.St} {vs : List Nat} (hl : s.length = s'.length) (h : ∀ j, j ∉ vs → s'[j]? = s[j]?) : wipe s' vs = wipe s vs := by
  apply List.ext_getElem?
  intro j
  by_cases hj : j ∈ vs
  · by_cases hlt : j < s.length
    · rw [wipe_in s vs j hj hlt, wipe_in s' vs j hj (by omega)]
    · rw [List.getElem?_eq_none (by rw [wipe_length]; omega), List.getElem?_eq_none (by rw [wipe_length]; omega)]
  · rw [wipe_get s vs j hj, wipe_get s' vs j hj]
    exact h j hj
theorem wipeD_get (s : DSt) : ∀ (vs : List Nat) (j : Nat), (wipeD s vs).getD j none = if j ∈ vs then none else s.getD j none
  | [], j => by simp [wipeD]
  | v :: vs, j => by
    unfold wipeD
    rw [List.getD_eq_getElem?_getD, List.getElem?_set]
    have ih := wipeD_get s vs j
    by_cases e : v = j
    · subst e
      rw [if_pos rfl, if_pos List.mem_cons_self]
      split <;> rfl
    · rw [if_neg e, ← List.getD_eq_getElem?_getD, ih]
      by_cases h : j ∈ vs
      · rw [if_pos h, if_pos (List.mem_cons_of_mem _ h)]
      · rw [if_neg h, if_neg]
        intro z
        rcases List.mem_cons.mp z with z | z
        · exact e z.symm
        · exact h z
/-- the block's slots are empty -/
theorem Sim.wipe (S : Sim K H0 M st σ F H) {vs : List Nat} (no : ∀ j ∈ vs, ∀ xs, st.getD j none ≠ some (.lent xs)) : Sim K H0 M (wipeD st vs) (wipe σ vs) F H := by
  have back : ∀ j s, (wipeD st vs).getD j none = some s → st.getD j none = some s ∧ j ∉ vs := fun j s h => by
    rw [wipeD_get] at h
    by_cases c : j ∈ vs
    · rw [if_pos c] at h; cases h
    · rw [if_neg c] at h; exact ⟨h, c⟩
  have own : ∀ j, IsOwn (wipeD st vs) j → IsOwn st j ∧ j ∉ vs := fun j ⟨xs, h⟩ => by
    rcases h with h | h
    · exact ⟨⟨xs, .inl (back j _ h).1⟩, (back j _ h).2⟩
    · exact ⟨⟨xs, .inr (back j _ h).1⟩, (back j _ h).2⟩
  refine ⟨by rw [wipe_length, wipeD_len]; exact S.len, fun j x h => ?_, fun j x h => ?_, fun j x h => ?_, fun j p m => ?_, S.lent0, fun j k p a b e1 e2 => ?_, S.frz, S.base⟩
  · obtain ⟨h, c⟩ := back j _ h
    rw [wipe_get σ vs j c]
    exact S.dat j x h
  · obtain ⟨h, c⟩ := back j _ h
    rw [wipe_get σ vs j c]
    exact S.own j x h
  · obtain ⟨h, c⟩ := back j _ h
    rw [wipe_get σ vs j c]
    exact S.lent j x h
  · obtain ⟨xs, h⟩ := S.lentE j p m
    refine ⟨xs, ?_⟩
    rw [wipeD_get, if_neg, h]
    intro z
    exact no j z xs h
  · obtain ⟨a, ca⟩ := own j a
    obtain ⟨b, cb⟩ := own k b
    rw [wipe_get σ vs j ca] at e1
    rw [wipe_get σ vs k cb] at e2
    exact S.inj j k p a b e1 e2
theorem Sim.unwipe {vs : List Nat} (S : Sim K H0 M st (L2.wipe σ vs) F H) (em : ∀ j ∈ vs, st.getD j none = none) : Sim K H0 M st σ F H := by
  have out : ∀ j s, st.getD j none = some s → j ∉ vs := fun j s h z => by
    rw [em j z] at h
    cases h
  have own : ∀ j, IsOwn st j → j ∉ vs := fun j ⟨xs, h⟩ => by
    rcases h with h | h <;> exact out j _ h
  refine ⟨by rw [← wipe_length σ vs]; exact S.len, fun j x h => ?_, fun j x h => ?_, fun j x h => ?_, S.lentE, S.lent0, fun j k p a b e1 e2 => ?_, S.frz, S.base⟩
  · have := S.dat j x h
    rw [wipe_get σ vs j (out j _ h)] at this
    exact this
  · have := S.own j x h
    rw [wipe_get σ vs j (out j _ h)] at this
    exact this
  · have := S.lent j x h
    rw [wipe_get σ vs j (out j _ h)] at this
    exact this
  · rw [← wipe_get σ vs j (own j a)] at e1
    rw [← wipe_get σ vs k (own k b)] at e2
    exact S.inj j k p a b e1 e2
theorem Ext.trans' {σ' : L2.St} (a : Ext st σ F H st' F' H') (o : ∀ p, OwnAt st' σ' p → OwnAt st σ p) (b : Ext st' σ' F' H' st2 F2 H2) : Ext st σ F H st2 F2 H2 where
  sub := fun c h => b.sub c (a.sub c h)
  new := fun c h => by
    rcases b.new c h with h | h | h
    · exact a.new c h
    · refine .inr (.inl ?_)
      apply Classical.byContradiction
      intro z
      exact a.live c z h
    · exact .inr (.inr (o c h))
  keep := fun c u h n => b.keep c u (a.keep c u h n) fun z => n (o c z)
  live := fun c h => b.live c (a.live c h)
  own := fun i h => a.own i (b.own i h)
/-- a list that nobody of us has is another one now -/
theorem FL.upd {D : Addr} {old ys : List V} (hD : H D = some (.lst old)) (nf : ¬ F D) {a : Addr} {xs : List V} (h : FL K F H a xs) : FL K F (upd H D (.lst ys)) a xs := by
  rcases h with ⟨f, h⟩ | ⟨ob, h⟩ | h
  · exact .inl ⟨f, by rw [upd_ne (by rintro rfl; exact nf f)]; exact h⟩
  · exact .inr (.inl ⟨ob, by rw [upd_ne (by rintro rfl; rw [hD] at h; cases h)]; exact h⟩)
  · exact .inr (.inr h)
theorem stD_upd {D : Addr} {old ys : List V} (hD : H D = some (.lst old)) {a : Addr} {xs : Option (List V)} (h : STD K H a xs) : STD K (upd H D (.lst ys)) a xs := stD_up (fun b u e1 nl => by
    rw [upd_ne]
    · exact e1
    · rintro rfl
      rw [hD] at e1
      cases e1
      exact nl _ rfl) h
theorem Sim.updFree (S : Sim K H0 M st σ F H) {D : Addr} {old ys : List V} (hD : H D = some (.lst old)) (nf : ¬ F D) (no : ¬ OwnAt st σ D) (h0 : H0 D = none) : Sim K H0 M st σ F (L2.upd H D (.lst ys)) := by
  have mono : ∀ {v : V} {x : PyData}, Rp K F H v x → Rp K F (L2.upd H D (.lst ys)) v x := fun r => r.mono (fun _ _ h => h.upd hD nf) fun _ _ h => stD_upd hD h
  have monoA : ∀ {v : List V} {x : List PyData}, RpAll K F H v x → RpAll K F (L2.upd H D (.lst ys)) v x := fun r => r.mono (fun _ _ h => h.upd hD nf) fun _ _ h => stD_upd hD h
  have ne : ∀ {i p}, IsOwn st i → σ[i]? = some (some (.ref p)) → p ≠ D := fun {i p} o e z => by
    subst z
    exact no ⟨i, o, e⟩
  refine ⟨S.len, fun j x h => ?_, fun j x h => ?_, fun j x h => ?_, S.lentE, S.lent0, S.inj, fun a h => ?_, fun b u h n => ?_⟩
  · obtain ⟨v, a, b⟩ := S.dat j x h
    exact ⟨v, a, mono b⟩
  · obtain ⟨p, vs, a, b, c, d, f⟩ := S.own j x h
    exact ⟨p, vs, a, by rw [upd_ne (ne ⟨x, .inl h⟩ a)]; exact b, monoA c, d, f⟩
  · obtain ⟨p, vs, m, a, b, c, d⟩ := S.lent j x h
    exact ⟨p, vs, m, a, by rw [upd_ne (ne ⟨x, .inr h⟩ a)]; exact b, monoA c, d⟩
  · rw [upd_ne (by rintro rfl; exact nf h)]
    exact S.frz a h
  · rw [upd_ne (by rintro rfl; rw [h0] at h; cases h)]
    exact S.base b u h n
theorem refill_len (s0 s : DSt) : ∀ vs : List Nat, (refill s0 s vs).length = s.length
  | [] => rfl
  | v :: vs => by unfold refill; rw [List.length_set, refill_len s0 s vs]
theorem refill_get (s0 s : DSt) : ∀ (vs : List Nat) (j : Nat), (refill s0 s vs).getD j none = if j ∈ vs ∧ j < s.length then s0.getD j none else s.getD j none
  | [], j => by simp [refill]
  | v :: vs, j => by
    unfold refill
    rw [List.getD_eq_getElem?_getD, List.getElem?_set, refill_len]
    have ih := refill_get s0 s vs j
    by_cases e : v = j
    · subst e
      rw [if_pos rfl]
      by_cases h : v < s.length
      · rw [if_pos h, if_pos ⟨List.mem_cons_self, h⟩]
        rfl
      · rw [if_neg h, if_neg fun z => h z.2, List.getD_eq_getElem?_getD, List.getElem?_eq_none (by omega)]
    · rw [if_neg e, ← List.getD_eq_getElem?_getD, ih]
      by_cases h : j ∈ vs ∧ j < s.length
      · rw [if_pos h, if_pos ⟨List.mem_cons_of_mem _ h.1, h.2⟩]
      · rw [if_neg h, if_neg]
        rintro ⟨z, z2⟩
        rcases List.mem_cons.mp z with z | z
        · exact e z.symm
        · exact h ⟨z, z2⟩
/-- the block's slots hold again what they held -/
theorem Sim.refill {s0 : DSt} {vs : List Nat} (S : Sim K H0 M st σ F H) (em : ∀ j ∈ vs, st.getD j none = none) (old : ∀ j ∈ vs, ∀ s, s0.getD j none = some s → ∃ x v, s = .d x ∧ σ[j]? = some (some v) ∧ Rp K F H v x) : Sim K H0 M (DL.refill s0 st vs) σ F H ∧ ∀ i, IsOwn (DL.refill s0 st vs) i → IsOwn st i := by
  have new : ∀ j s, (DL.refill s0 st vs).getD j none = some s → (st.getD j none = some s) ∨ (∃ x v, s = .d x ∧ σ[j]? = some (some v) ∧ Rp K F H v x) := fun j s h => by
    rw [refill_get] at h
    by_cases c : j ∈ vs ∧ j < st.length
    · rw [if_pos c] at h
      exact .inr (old j c.1 s h)
    · rw [if_neg c] at h
      exact .inl h
  have own : ∀ i, IsOwn (DL.refill s0 st vs) i → IsOwn st i := fun i ⟨xs, h⟩ => by
    rcases h with h | h
    · rcases new i _ h with z | ⟨x, v, z, _⟩
      · exact ⟨xs, .inl z⟩
      · cases z
    · rcases new i _ h with z | ⟨x, v, z, _⟩
      · exact ⟨xs, .inr z⟩
      · cases z
  refine ⟨⟨S.len.trans (refill_len s0 st vs).symm, fun i x h => ?_, fun i x h => ?_, fun i x h => ?_, fun i p m => ?_, S.lent0, fun i j p a b => S.inj i j p (own i a) (own j b), S.frz, S.base⟩, own⟩
  · rcases new i _ h with z | ⟨y, v, z, z2, z3⟩
    · exact S.dat i x z
    · cases z
      exact ⟨v, z2, z3⟩
  · rcases new i _ h with z | ⟨y, v, z, _⟩
    · exact S.own i x z
    · cases z
  · rcases new i _ h with z | ⟨y, v, z, _⟩
    · exact S.lent i x z
    · cases z
  · obtain ⟨xs, h⟩ := S.lentE i p m
    refine ⟨xs, ?_⟩
    rw [refill_get, if_neg, h]
    rintro ⟨z, _⟩
    rw [em i z] at h
    cases h
/-- a comprehension from its source on -/
theorem lc_body {is vs : List Nat} {tg : TG} {tt : TT} {te : TE} {g : DG} {t : DT} {f : DE} (c : SndG K is tg g) (b : SndT K tt t) (d : SndE K te f) (hsub : ∀ j ∈ is, j ∈ vs) {H0 : Hp} {M : Nat → Option Addr} {st : DSt} {σ : L2.St} {F : Addr → Prop} {H : Hp} {r : Rv} {st' : DSt} {Q : VK} (S : Sim K H0 M st σ F H) {ds : List D} {s1 : DSt} {J : It} {F1 : Addr → Prop} {H1 : Hp} (S1 : Sim K H0 M s1 σ F1 H1) (E1 : Ext st σ F H s1 F1 H1) (W : WalkD K J ds F1 H1)
    (e : (if ds.length ≤ sizeLine ∧ vs.all (fun i => match s1.getD i none with | none => true | some (.d _) => true | _ => false) = true then
    (lcGo g t f vs ds (wipeD s1 vs)).bind fun q => some (Rv.tmp q.1, refill s1 q.2 vs) else none) = some (r, st'))
    (q : ∀ v F' H', Sim K H0 M st' σ F' H' → Ext st σ F H st' F' H' → Fill st st' → RvOk K F' H' st' σ H r v → Q v H') : ∀ D, H1 D = none → ∃ W : Nat → Nat → Hp → Prop, (∃ m, W 0 m (upd H1 D (.lst []))) ∧ ∀ i m H, W i m H →
  (J.stop i H ∧ Q (.ref D) H) ∨ (J.go i H ∧ ∃ Nx : Hp → Prop, (∀ H', Nx H' → ∃ m', m' < m ∧ W (i + 1) m' H') ∧ ∀ x H', J.yld i H x H' → tg x (L2.wipe σ vs) H' fun σ2 H2 => L2.wipe σ2 vs = L2.wipe σ vs ∧ tt σ2 H2 fun b H3 =>
    if b = true then te σ2 H3 fun y H4 => ∃ acc, H4 D = some (.lst acc) ∧ acc.length < sizeLine ∧ Nx (upd H4 D (.lst (acc ++ [y]))) else Nx H3) := by
  intro D hD
  by_cases cd : ds.length ≤ sizeLine ∧ vs.all (fun i => match s1.getD i none with | none => true | some (.d _) => true | _ => false) = true
  · rw [if_pos cd] at e
    obtain ⟨⟨tot, sE⟩, e2, e⟩ := bs e
    cases e
    obtain ⟨hlen, hall⟩ := cd
    have nl1 : ∀ j ∈ vs, ∀ xs, s1.getD j none ≠ some (.lent xs) := fun j hj xs z => by
      have := List.all_eq_true.mp hall j hj
      rw [z] at this
      cases this
    have nM : ∀ j ∈ vs, M j = none := fun j hj => by
      cases m : M j with
      | none => rfl
      | some p =>
        obtain ⟨xs, z⟩ := S1.lentE j p m
        exact absurd z (nl1 j hj xs)
    have nlent : ∀ {s2 : DSt} {σ2 : L2.St} {F2 : Addr → Prop} {H2 : Hp}, Sim K H0 M s2 σ2 F2 H2 → ∀ j ∈ vs, ∀ xs, s2.getD j none ≠ some (.lent xs) := fun S2 j hj xs z => by
      obtain ⟨p, _, m, _⟩ := S2.lent j xs z
      rw [nM j hj] at m
      cases m
    have hD0 : H D = none := Classical.byContradiction fun z => E1.live D z hD
    have h00 : H0 D = none := S.fresh0 hD0
    have gr : Same H1 (upd H1 D (.lst [])) := same_upd hD
    have Sw : Sim K H0 M (wipeD s1 vs) (L2.wipe σ vs) F1 (upd H1 D (.lst [])) := (S1.wipe nl1).grow gr
    have ownw : ∀ i, IsOwn (wipeD s1 vs) i → IsOwn s1 i := fun i ⟨xs, h⟩ => by
      rw [wipeD_get] at h
      by_cases c : i ∈ vs
      · rw [if_pos c] at h
        rcases h with h | h <;> cases h
      · rw [if_neg c] at h
        exact ⟨xs, h⟩
    have Ew : Ext st σ F H (wipeD s1 vs) F1 (upd H1 D (.lst [])) := by
      have := E1.trans (Ext.grow (st := s1) (σ := σ) (F := F1) gr)
      exact ⟨this.sub, this.new, this.keep, this.live, fun i h => this.own i (ownw i h)⟩
    -- wiped slots are slots
    have back : ∀ {s2 : DSt}, (∀ i, IsOwn s2 i → IsOwn st i) → ∀ p, OwnAt s2 (L2.wipe σ vs) p → OwnAt st σ p := fun {s2} o p ⟨i, h1, h2⟩ => ⟨i, o i h1, (wipe_some h2).1⟩
    refine ⟨fun i m Hc => i + m = ds.length ∧ ∃ (s2 : DSt) (F2 : Addr → Prop) (av : List V) (ad rest : List PyData), Sim K H0 M s2 (L2.wipe σ vs) F2 Hc ∧ FExt K H0 F1 H1 F2 Hc ∧ Ext st σ F H s2 F2 Hc ∧ Hc D = some (.lst av) ∧ RpAll K F2 Hc av ad ∧ ¬ F2 D ∧ ¬ OwnAt s2 (L2.wipe σ vs) D ∧
      (∀ j ∈ vs, s2.getD j none = none) ∧ lcGo g t f vs (ds.drop i) s2 = some (rest, sE) ∧ ad ++ rest = tot ∧ ad.length ≤ i, ⟨ds.length, by simp, wipeD s1 vs, F1, [], [], tot, Sw, ?_, Ew, upd_same, .nil, ?_, ?_, ?_, e2, rfl, Nat.le_refl _⟩, ?_⟩
    · exact (Ext.grow (st := s1) (σ := σ) (F := F1) gr).fext S1 (S1.grow gr)
    · intro z
      obtain ⟨ys, e⟩ := S1.frz D z
      rw [hD] at e
      cases e
    · rintro ⟨i, h1, h2⟩
      obtain ⟨⟨ys, e⟩, _⟩ := S1.atOwn ⟨i, ownw i h1, (wipe_some h2).1⟩
      rw [hD] at e
      cases e
    · intro j hj
      rw [wipeD_get, if_pos hj]
    · rintro i m Hc ⟨him, s2, F2, av, ad, rest, S2, x2, E2, hDc, rA, nfD, noD, em, e3, htot, hal⟩
      by_cases hi : i < ds.length
      · refine .inr ⟨W.goes i Hc hi x2.gd, fun Hn => ∃ (s2 : DSt) (F2 : Addr → Prop) (av : List V) (ad rest : List PyData), Sim K H0 M s2 (L2.wipe σ vs) F2 Hn ∧ FExt K H0 F1 H1 F2 Hn ∧ Ext st σ F H s2 F2 Hn ∧ Hn D = some (.lst av) ∧ RpAll K F2 Hn av ad ∧ ¬ F2 D ∧ ¬ OwnAt s2 (L2.wipe σ vs) D ∧
          (∀ j ∈ vs, s2.getD j none = none) ∧ lcGo g t f vs (ds.drop (i + 1)) s2 = some (rest, sE) ∧ ad ++ rest = tot ∧ ad.length ≤ i + 1, fun Hn h => ⟨m - 1, by omega, by omega, h⟩, fun x H3 y => ?_⟩
        obtain ⟨sm, dd, gd, rx⟩ := W.yields i Hc x H3 F2 hi x2.gd (fun v d h => x2.rp h) y
        have hdrop : ds.drop i = dd :: ds.drop (i + 1) := by
          obtain ⟨h, e⟩ := List.getElem?_eq_some_iff.mp gd
          rw [List.drop_eq_getElem_cons h, e]
        rw [hdrop] at e3
        obtain ⟨s3, e4, e3⟩ := bs e3
        obtain ⟨⟨kb, s4⟩, e5, e3⟩ := bs e3
        have S3 := S2.grow sm
        have E3 : Ext st σ F H s2 F2 H3 := E2.trans' (back E2.own) (Ext.grow sm)
        have x3 : FExt K H0 F1 H1 F2 H3 := x2.trans ((Ext.grow sm).fext S2 S3)
        refine c H0 M s2 (L2.wipe σ vs) F2 H3 dd x s3 _ S3 rx e4 fun σ3 S4 same3 own3 => ?_
        have wk : L2.wipe σ3 vs = L2.wipe (L2.wipe σ vs) vs := wipe_ext same3.1.symm fun j hj => same3.2 j fun z => hj (hsub j z)
        have ww : L2.wipe (L2.wipe σ vs) vs = L2.wipe σ vs := wipe_ext (wipe_length σ vs).symm fun j hj => wipe_get σ vs j hj
        have wσ : L2.wipe σ3 vs = L2.wipe σ vs := wk.trans ww
        refine ⟨wσ, ?_⟩
        -- from the target's slots back
        have o3 : ∀ p, OwnAt s3 σ3 p → OwnAt s2 (L2.wipe σ vs) p := fun p ⟨i, h1, h2⟩ => by
          obtain ⟨h3, h4⟩ := own3 i h1
          exact ⟨i, h3, by rw [← same3.2 i h4]; exact h2⟩
        have o3' : ∀ p, OwnAt s3 σ3 p → OwnAt st σ p := fun p h => back E2.own p (o3 p h)
        have E4 : Ext st σ F H s3 F2 H3 := ⟨E3.sub, E3.new, E3.keep, E3.live, fun i h => E2.own i (own3 i h).1⟩
        have hD3 : H3 D = some (.lst av) := sm _ _ hDc
        have noD3 : ¬ OwnAt s3 σ3 D := fun z => noD (o3 D z)
        refine b H0 M s3 σ3 F2 H3 kb s4 _ S4 e5 fun F5 H5 S5 E5 _ => ?_
        have x5 := x3.trans (E5.fext S4 S5)
        have E5' : Ext st σ F H s4 F5 H5 := E4.trans' o3' E5
        have hD5 : H5 D = some (.lst av) := E5.keep _ _ hD3 noD3
        have o5 : ∀ p, OwnAt s4 σ3 p → OwnAt s3 σ3 p := fun p z => z.imp E5.own
        have nfD5 : ¬ F5 D := fun z => by
          rcases E5.new D z with z | z | z
          · exact nfD z
          · rw [hD3] at z; cases z
          · exact noD3 z
        have rA5 : RpAll K F5 H5 av ad := E5.rpAll S4 (rA.grow sm)
        -- the turn's end
        have fin : ∀ {s6 : DSt} {F6 : Addr → Prop} {H6 : Hp} {av' : List V} {ad' rest' : List PyData}, Sim K H0 M s6 σ3 F6 H6 → FExt K H0 F1 H1 F6 H6 → Ext st σ F H s6 F6 H6 → H6 D = some (.lst av') → RpAll K F6 H6 av' ad' → ¬ F6 D → ¬ OwnAt s6 σ3 D →
            lcGo g t f vs (ds.drop (i + 1)) (wipeD s6 vs) = some (rest', sE) → ad' ++ rest' = tot → ad'.length ≤ i + 1 →
            ∃ (s2 : DSt) (F2 : Addr → Prop) (av : List V) (ad rest : List PyData), Sim K H0 M s2 (L2.wipe σ vs) F2 H6 ∧ FExt K H0 F1 H1 F2 H6 ∧ Ext st σ F H s2 F2 H6 ∧ H6 D = some (.lst av) ∧ RpAll K F2 H6 av ad ∧ ¬ F2 D ∧ ¬ OwnAt s2 (L2.wipe σ vs) D ∧
              (∀ j ∈ vs, s2.getD j none = none) ∧ lcGo g t f vs (ds.drop (i + 1)) s2 = some (rest, sE) ∧ ad ++ rest = tot ∧ ad.length ≤ i + 1 := fun {s6 F6 H6 av' ad' rest'} S6 x6 E6 hD6 rA6 nf6 no6 e6 t6 l6 => by
          have ow : ∀ i, IsOwn (wipeD s6 vs) i → IsOwn s6 i := fun i ⟨xs, h⟩ => by
            rw [wipeD_get] at h
            by_cases c : i ∈ vs
            · rw [if_pos c] at h
              rcases h with h | h <;> cases h
            · rw [if_neg c] at h
              exact ⟨xs, h⟩
          have Sw6 := S6.wipe (nlent S6)
          rw [wσ] at Sw6
          refine ⟨wipeD s6 vs, F6, av', ad', rest', Sw6, x6, ⟨E6.sub, E6.new, E6.keep, E6.live, fun i h => E6.own i (ow i h)⟩, hD6, rA6, nf6, ?_, fun j hj => by rw [wipeD_get, if_pos hj], e6, t6, l6⟩
          rintro ⟨i, h1, h2⟩
          rw [← wσ] at h2
          exact no6 ⟨i, ow i h1, (wipe_some h2).1⟩
        by_cases hb : kb = true
        · subst hb
          rw [if_pos rfl] at e3
          rw [if_pos rfl]
          obtain ⟨⟨rv, s6⟩, e6, e3⟩ := bs e3
          obtain ⟨⟨yd, s7⟩, e7, e3⟩ := bs e3
          obtain ⟨⟨rest', sE'⟩, e8, e3⟩ := bs e3
          cases e3
          refine d H0 M s4 σ3 F5 H5 rv s6 _ S5 e6 fun yv F6 H6 S6 E6 _ r6 => ?_
          obtain ⟨F7, S7, E7, r7, sub7, own7, _⟩ := toD_ok S6 E6 r6.weak e7
          have no5 : ¬ OwnAt s4 σ3 D := fun z => noD3 (o5 D z)
          have hD7 : H6 D = some (.lst av) := E7.keep _ _ hD5 no5
          have nfD7 : ¬ F7 D := fun z => by
            rcases E7.new D z with z | z | z
            · exact nfD5 z
            · rw [hD5] at z; cases z
            · exact no5 z
          have no7 : ¬ OwnAt s7 σ3 D := fun z => no5 (z.imp E7.own)
          refine ⟨av, hD7, ?_, ?_⟩
          · rw [rA5.length]
            exact Nat.lt_of_lt_of_le (Nat.lt_of_le_of_lt hal hi) hlen
          · have S8 := S7.updFree (ys := av ++ [yv]) hD7 nfD7 no7 h00
            have up1 : ∀ a xs, FL K F7 H6 a xs → FL K F7 (upd H6 D (.lst (av ++ [yv]))) a xs := fun _ _ h => h.upd hD7 nfD7
            have up2 : ∀ a xs, STD K H6 a xs → STD K (upd H6 D (.lst (av ++ [yv]))) a xs := fun _ _ h => stD_upd hD7 h
            have E8 : Ext st σ F H s7 F7 (upd H6 D (.lst (av ++ [yv]))) := by
              have e9 := E5'.trans' (fun p z => o3' p (o5 p z)) E7
              refine ⟨e9.sub, e9.new, fun b u h n => ?_, fun b h => ?_, e9.own⟩
              · rw [upd_ne (by rintro rfl; rw [hD0] at h; cases h)]
                exact e9.keep b u h n
              · by_cases bd : b = D
                · subst bd
                  exact absurd hD0 h
                · rw [upd_ne bd]
                  exact e9.live b h
            exact fin (av' := av ++ [yv]) (ad' := ad ++ [yd]) (rest' := rest') S8 ((x5.trans (E7.fext S5 S7)).trans ⟨fun _ h => h, fun _ h => .inl h, up1, up2⟩) E8 upd_same
              ((RpAll.mono up1 up2 (E7.rpAll S5 rA5)).snoc (r7.mono up1 up2)) nfD7 no7 e8 (by rw [List.append_assoc]; exact htot) (by rw [List.length_append, List.length_singleton]; omega)
        · rw [if_neg hb] at e3
          rw [if_neg hb]
          exact fin S5 x5 E5' hD5 rA5 nfD5 (fun z => noD3 (o5 D z)) e3 htot (Nat.le_succ_of_le hal)
      · have hl : i = ds.length := by omega
        subst hl
        rw [List.drop_length] at e3
        cases e3
        rw [List.append_nil] at htot
        subst htot
        have S5 := S2.unwipe em
        obtain ⟨S6, own6⟩ := S5.refill (s0 := s1) em fun j hj s hs => by
          have hd := List.all_eq_true.mp hall j hj
          rw [hs] at hd
          cases s with
          | d x =>
            obtain ⟨v, e1, e2⟩ := S1.dat j x hs
            exact ⟨x, v, rfl, e1, x2.rp e2⟩
          | own xs => cases hd
          | lent xs => cases hd
        refine .inl ⟨W.stops Hc x2.gd, q _ F2 Hc S6 ⟨E2.sub, E2.new, E2.keep, E2.live, fun i h => E2.own i (own6 i h)⟩ trivial ⟨D, av, rfl, hDc, rA, nfD, fun z => ?_, hD0⟩⟩
        obtain ⟨i, h1, h2⟩ := z
        have h1 := own6 i h1
        refine noD ⟨i, h1, ?_⟩
        rw [wipe_get σ vs i]
        · exact h2
        · intro z
          obtain ⟨xs, h1⟩ := h1
          rw [em i z] at h1
          rcases h1 with h1 | h1 <;> cases h1
  · rw [if_neg cd] at e
    cases e
theorem snd_lc {is vs : List Nat} {wi : TI} {tg : TG} {tt : TT} {te : TE} {it : DI} {g : DG} {t : DT} {f : DE} (a : SndI K wi it) (c : SndG K is tg g) (b : SndT K tt t) (d : SndE K te f) (hsub : ∀ j ∈ is, j ∈ vs) : SndE K (tLc wi tg tt te vs) (dLc it g t f vs) := by
  intro H0 M st σ F H r st' Q S e q
  obtain ⟨⟨ds, s1⟩, e1, e⟩ := bs e
  exact a H0 M st σ F H ds s1 _ S e1 fun J F1 H1 S1 E1 W => lc_body c b d hsub S S1 E1 W e q
end
end DL
end

section
set_option Elab.async false
set_option linter.all false
set_option maxRecDepth 100000
set_option maxHeartbeats 1000000
/-! DLfn: defs that run where no repr is under way (repr asks for that): their promises, calls, the law's own end. -/
namespace DL
open PySem PySem.Spec PyProof.Rows L2
/-- a def's promise, where no guard stands around -/
structure FnG (P : Program) (w : World) (K : PySem.W.Frag) (mg : Str → Option Value) (base : Heap) (CX : CXT) (lv : Nat) (f : Addr) (fd : FuncData) (ps : List Str) (sp : Sp) : Prop where
  many : ∀ vs H Q E, sp vs H Q E → vs.length = ps.length
  go : ∀ (A : Around) (out : List Env) (s : Shared) (H : Hp) (args : Args) (us : List Value) (vs : List V) (Q : VK) (E : XK), Room lv A → A.guards = some [] → Env0 P w K mg base A out s H → BindsTo s fd args (ps.zip us) → Vals vs us → sp vs H Q E →
    codeAny (model P w) A (.call (.ref f) args) (CR CX out P w H s Q E) s
section
variable {P : Program} {w : World} {K : PySem.W.Frag} {mg : Str → Option Value} {base : Heap} {CX : CXT}
theorem FnG.mono {i j : Nat} {f : Addr} {fd : FuncData} {ps : List Str} {sp : Sp} (g : FnG P w K mg base CX i f fd ps sp) (h : i ≤ j) : FnG P w K mg base CX j f fd ps sp :=
  ⟨g.many, fun A out s H args us vs Q E room => g.go A out s H args us vs Q E (room.mono h)⟩
theorem FnG.imp {i : Nat} {f : Addr} {fd : FuncData} {ps : List Str} {sp sp' : Sp} (g : FnG P w K mg base CX i f fd ps sp) (h : ∀ vs H Q E, sp' vs H Q E → sp vs H Q E) : FnG P w K mg base CX i f fd ps sp' :=
  ⟨fun vs H Q E z => g.many vs H Q E (h _ _ _ _ z), fun A out s H args us vs Q E room gd env bd vl z => g.go A out s H args us vs Q E room gd env bd vl (h _ _ _ _ z)⟩
/-- from the body -/
theorem fnG_of {lv : Nat} {f : Addr} {nm ql : Str} {prm : Arguments} {bd : List Stmt} {sc : Scope} {dV kV dc pm cdv ct oc : Value} {an od : Option Addr} {osl : Array (Option Value)} {N ps : List Str} {sp : Sp}
    (at_ : K.lookup f = some ⟨oc, od, .func (PySem.W.fnOf nm ql prm bd sc dV kV dc pm an cdv ct), osl⟩) (isc : PySem.W.codeIn K cdv ql = true) (S : FnScope N ps sc) (many : ∀ vs H Q E, sp vs H Q E → vs.length = ps.length)
    (body : ∀ (A : Around) (out : List Env) (s : Shared) (H : Hp) (vs : List V) (Q : VK) (E : XK), Room lv (A.deeper (envOfC ql sc s.heap.objs.size f cdv)) → (A.deeper (envOfC ql sc s.heap.objs.size f cdv)).guards = some [] → sp vs H Q E →
      ∃ t, PSs (cxOf CX P w K mg base N ql sc f cdv A out s H E) bd t ∧ t { nx := fun _ H' => Q .non H', rt := Q } (L2.start N vs) H) :
    FnG P w K mg base CX (lv + 1) f (PySem.W.fnOf nm ql prm bd sc dV kV dc pm an cdv ct) ps sp := by
  refine ⟨many, fun A out s H args us vs Q E room gd env bnd vals want => ?_⟩
  have vlen := many _ _ _ _ want
  have kept : ∀ b o, base.get? b = some o → s.heap.get? b = some o := fun b o z => (env.bs b o z).1
  have inK : K.In s.heap := env.mod.kin.keeps kept
  have places : ∀ y ∈ ps.zip us, sc.names.lookup y.1 = some .local ∨ (sc.names.lookup y.1 = some .cell ∧ ((cellsFrom (s.heap.objs.size + 1) sc.names []).lookup y.1).isSome = true) := by
    rintro ⟨nm', v'⟩ hy
    rcases S.par nm' (List.of_mem_zip hy).1 with z | z
    · exact .inl z
    · exact .inr ⟨z, PySem.W.cellsFrom_some _ _ _ (.inl z)⟩
  refine codeAny_call_function room.depth (inK _ _ at_) rfl S.co S.gen rfl (PySem.W.codeRec_of inK isc) (bnd _ _ _ _ ?_)
  refine wpAny_newFunctionEnv_cells S.kind places fun env' he st1 x => ?_
  subst he
  refine ⟨(env.mod.nolimit.keeps kept).keeps x.toInCall.keep, codeAny_func ?_⟩
  obtain ⟨t, pt, qt⟩ := body A out s H vs Q E (room.deeper _) gd want
  have J : Inv (cxOf CX P w K mg base N ql sc f cdv A out s H E) [] (L2.start N vs) H st1 := inv_start S room.hd env vlen vals x
  refine wpAny_mono (pt.run [] st1 (L2.start N vs) H _ J qt) (fun fl st2 z => ?_) fun e st2 z => z
  cases fl with
  | ret u =>
    obtain ⟨v, σ', H', J', rv, z⟩ := z
    exact ⟨v, H', J'.os, J'.bare, J'.base, J'.hok, rv, z⟩
  | next =>
    obtain ⟨σ', H', J', z⟩ := z
    exact ⟨.non, H', J'.os, J'.bare, J'.base, J'.hok, rfl, z⟩
  | brk =>
    obtain ⟨_, _, _, z⟩ := z
    exact z.elim
  | cont =>
    obtain ⟨_, _, _, z⟩ := z
    exact z.elim
end
section
variable {X : Cx} {CX : CXT} {lv n : Nat} {f : Addr} {fd : FuncData} {ps ks : List Str} {sp : Sp} {dvs : List V} {ds : List Value} {E : XK} {x : Str} {p pos : Pos} {e : Expr} {es : List Expr} {kws : List Keyword} {t tk : TA} {perm : List Nat}
/-- a callee's end is the caller's -/
theorem callG {pins : List (Addr × Obj)} {σ : L2.St} {H : Hp} {s : Shared} {Q : VK} {us : List Value} {kw : List (Str × Value)} {full : List Value} {vs : List V} (g : FnG X.prog X.w X.K X.mg X.base CX lv f fd ps sp) (room : Room lv X.A) (gd : X.A.guards = some []) (pa : Passes CX X E)
    (I : Inv X pins σ H s) (bnd : BindsTo s fd ⟨us, kw⟩ (ps.zip full)) (r : Vals vs full) (want : sp vs H Q E) : wpAny (model X.prog X.w) X.A (call (.ref f) us kw) (EP X pins σ Q) X.xe s := by
  refine wpAny_call (codeAny_mono (g.go X.A X.stack s H ⟨us, kw⟩ full vs Q E room gd I.env0 bnd r want) fun res s' z => ?_)
  match res, z with
  | .error er, z => exact pa pins σ H s er s' I z
  | .ok (.ret u), z => exact I.after z
  | .ok .next, z => exact z.elim
  | .ok .brk, z => exact z.elim
  | .ok .cont, z => exact z.elim
theorem pe_callG (g : FnG X.prog X.w X.K X.mg X.base CX lv f fd ps sp) (room : Room lv X.A) (gd : X.A.guards = some []) (hg : Gl X x) (hm : X.mg x = some (.ref f)) (kp : PySem.W.keepIn X.K (.ref f) = true) (hb : Binds X.K fd ps ds) (hd : Vals dvs ds) (pa : Passes CX X E)
    (ha : PA X (e :: es) t) (h1 : (x == ("__debug__" : Str)) = false := by decide) (h2 : starEach (e :: es) X.env = (false, eval e X.env) :: starEach es X.env := by rfl) (h3 : (backTo pos (starEach es X.env)).any (·.1) = false := by rfl) :
    PE X (.Call (.Name x p) (e :: es) [] pos) (tCall sp dvs E t) := by
  constructor
  intro pins s σ H Q I want
  refine wpAny_Call_Name_kw (ld_glob I hg hm ?_ h1)
  refine PySem.W.callWith_K (h₀ := X.base) I.ok.mod.kin kp ?_ h2 h3
  refine thn (ha.run pos pins s σ H _ I want) ?_
  rintro us s1 ⟨vs, H1, I1, r, z⟩
  have r2 : Vals (vs ++ dvs) (us ++ ds) := r.append hd
  have l2 : (us ++ ds).length = ps.length := r2.length.symm.trans (g.many _ _ _ _ z)
  exact ⟨I1.kIn, callG g room gd pa I1 (hb s1 us I1.kIn l2) r2 z⟩
theorem pe_call0G (g : FnG X.prog X.w X.K X.mg X.base CX lv f fd ps sp) (room : Room lv X.A) (gd : X.A.guards = some []) (hg : Gl X x) (hm : X.mg x = some (.ref f)) (kp : PySem.W.keepIn X.K (.ref f) = true) (hb : Binds X.K fd ps ds) (hd : Vals dvs ds) (pa : Passes CX X E)
    (h1 : (x == ("__debug__" : Str)) = false := by decide) : PE X (.Call (.Name x p) [] [] pos) (tCall sp dvs E tNil) := by
  constructor
  intro pins s σ H Q I want
  refine wpAny_Call_Name_kw (ld_glob I hg hm ?_ h1)
  have r2 : Vals ([] ++ dvs) ([] ++ ds) := hd
  have l2 : (([] : List Value) ++ ds).length = ps.length := r2.length.symm.trans (g.many _ _ _ _ want)
  exact PySem.W.callWith_K0 I.kIn kp (callG g room gd pa I (hb s [] I.kIn l2) r2 want)

/-! ### calls with names -/
theorem permute_cons {α : Type} (k : Nat) (perm : List Nat) (xs : List α) : permute (k :: perm) xs = match xs[k]? with | some x => x :: permute perm xs | none => permute perm xs := by
  unfold permute
  rw [List.filterMap_cons]
  cases xs[k]? <;> rfl
theorem Vals.permute {vs : List V} {us : List Value} (h : Vals vs us) : ∀ perm : List Nat, Vals (DL.permute perm vs) (DL.permute perm us)
  | [] => .nil
  | k :: perm => by
    rw [permute_cons, permute_cons]
    cases q : vs[k]? with
    | none =>
      rw [Vals.none_of h q]
      exact Vals.permute h perm
    | some x =>
      obtain ⟨v, e, r⟩ := Vals.get h q
      rw [e]
      exact .cons r (Vals.permute h perm)
def KB (K : PySem.W.Frag) (fd : FuncData) (ps ks : List Str) (n : Nat) (perm : List Nat) (ds : List Value) : Prop :=
  ∀ (s : Shared) (us ws : List Value), K.In s.heap → us.length = n → ws.length = ks.length → BindsTo s fd ⟨us, ks.zip ws⟩ (ps.zip (permute perm (us ++ ws ++ ds)))
def tCallP (n m : Nat) (perm : List Nat) (dvs : List V) (sp : Sp) (E : XK) (t tk : TA) : TE := fun σ H Q => t σ H fun vs H1 => tk σ H1 fun zs H2 => vs.length = n ∧ zs.length = m ∧ sp (permute perm (vs ++ zs ++ dvs)) H2 Q E
theorem pe_callP (g : FnG X.prog X.w X.K X.mg X.base CX lv f fd ps sp) (room : Room lv X.A) (gd : X.A.guards = some []) (hg : Gl X x) (hm : X.mg x = some (.ref f)) (kp : PySem.W.keepIn X.K (.ref f) = true) (hb : KB X.K fd ps ks n perm ds) (hd : Vals dvs ds) (pa : Passes CX X E)
    (ha : PA X (e :: es) t) (hkw : PK X kws tk) (k1 : (backToKw pos (keywordEach kws X.env)).all (·.1.isSome) = true := by rfl) (k2 : (backToKw pos (keywordEach kws X.env)).filterMap (·.1) = ks := by rfl)
    (h1 : (x == ("__debug__" : Str)) = false := by decide) (h2 : starEach (e :: es) X.env = (false, eval e X.env) :: starEach es X.env := by rfl)
    (h3 : ((backTo pos (starEach (e :: es) X.env)).any (·.1) || (backToKw pos (keywordEach kws X.env)).any (·.1.isNone)) = false := by rfl) :
    PE X (.Call (.Name x p) (e :: es) kws pos) (tCallP n ks.length perm dvs sp E t tk) := by
  constructor
  intro pins s σ H Q I want
  refine wpAny_Call_Name_kw (ld_glob I hg hm ?_ h1)
  refine PySem.W.callWith_KW (h₀ := X.base) I.ok.mod.kin kp k1 (thn (ha.run pos pins s σ H _ I want) ?_) h3 h2
  rintro us s1 ⟨vs, H1, I1, r, z⟩
  refine thn (hkw.run pos pins s1 σ H1 _ I1 z) ?_
  rintro ws s2 ⟨zs, H2, I2, rz, l1, l2, z2⟩
  refine ⟨I2.kIn, ?_⟩
  rw [k2]
  exact callG g room gd pa I2 (hb s2 us ws I2.kIn (r.length.symm.trans l1) (rz.length.symm.trans l2)) (Vals.permute (Vals.append (Vals.append r rz) hd) perm) z2
theorem pe_callP0 (g : FnG X.prog X.w X.K X.mg X.base CX lv f fd ps sp) (room : Room lv X.A) (gd : X.A.guards = some []) (hg : Gl X x) (hm : X.mg x = some (.ref f)) (kp : PySem.W.keepIn X.K (.ref f) = true) (hb : KB X.K fd ps ks 0 perm ds) (hd : Vals dvs ds) (pa : Passes CX X E)
    (hkw : PK X kws tk) (k1 : (backToKw pos (keywordEach kws X.env)).all (·.1.isSome) = true := by rfl) (k2 : (backToKw pos (keywordEach kws X.env)).filterMap (·.1) = ks := by rfl)
    (h1 : (x == ("__debug__" : Str)) = false := by decide)
    (h3 : ((backTo pos (starEach [] X.env)).any (·.1) || (backToKw pos (keywordEach kws X.env)).any (·.1.isNone)) = false := by rfl) :
    PE X (.Call (.Name x p) [] kws pos) (tCallP 0 ks.length perm dvs sp E tNil tk) := by
  constructor
  intro pins s σ H Q I want
  refine wpAny_Call_Name_kw (ld_glob I hg hm ?_ h1)
  refine PySem.W.callWith_KW0 (h₀ := X.base) I.ok.mod.kin kp k1 (thn (hkw.run pos pins s σ H _ I want) ?_) h3
  rintro ws s2 ⟨zs, H2, I2, rz, l1, l2, z2⟩
  refine ⟨I2.kIn, ?_⟩
  rw [k2]
  exact callG g room gd pa I2 (hb s2 [] ws I2.kIn rfl (rz.length.symm.trans l2)) (Vals.permute (Vals.append (Vals.append .nil rz) hd) perm) z2
end

/-! ### the law's own end -/
section
variable {P : Program} {w : World} {K : PySem.W.Frag} {mg mb : Str → Option Value}
/-- the script's heap: nothing is told but the script, which is locked; or nothing at all -/
theorem lawG {lv : Nat} {fa a : Addr} {fd : FuncData} {x : Str} {sp : Sp} {s1 : Shared} {us : List Value} {ns : List Int}
    (inK : K.In s1.heap) (nsG : s1.heap.Ns mainGlobals mg) (nsB : s1.heap.Ns builtinsNs mb) (blt : ∀ y : Str, y ≠ "__name__" → mb y = bootBuiltins y) (noLim : s1.heap.NoLimit) (gens : s1.gens = #[])
    (scr : s1.heap.get? a = some { cls := .type "list", data := .seq us.toArray }) (isI : IntsAre us ns) (short : ns.length ≤ sizeLine) (room : Room lv callerA)
    (g : ∀ base : Heap, K.In base → base.Ns mainGlobals mg → FnG P w K mg base CX0 lv fa fd [x] sp) (bnd : ∀ (s : Shared) (u : Value), BindsTo s fd ⟨[u], []⟩ [(x, u)])
    (want : ∀ H : Hp, Only H → SqL K H a (ns.map V.int) → sp [.ref a] H (fun v _ => v = .bl true) fun _ _ _ => False) :
    codeAny (model P w) callerA (.call (.ref fa) ⟨[.ref a], []⟩) (fun r s' => r = .ok (.ret (.bool true)) ∧ OldK s1.heap s'.heap ∧ s'.os = s1.os ∧ AllBare s'.gens) s1 := by
  have vals : Vals (ns.map V.int) us := vals_ints isI
  have ulen : us.length = ns.length := isI.length
  -- both shapes of the told heap at once
  have both : ∀ H : Hp, Only H → SqL K H a (ns.map V.int) → HOk P w H s1.heap → (∀ b u, H b = some u → b = a ∧ K.lookup b = none) →
      codeAny (model P w) callerA (.call (.ref fa) ⟨[.ref a], []⟩) (fun r s' => r = .ok (.ret (.bool true)) ∧ OldK s1.heap s'.heap ∧ s'.os = s1.os ∧ AllBare s'.gens) s1 := by
    intro H only sq hok told
    have keepK : K.In (hidT s1.heap H) := by
      intro b o hb
      refine hidT_get (inK b o hb) ?_
      cases q : H b with
      | none => rfl
      | some u =>
        obtain ⟨_, z⟩ := told b u q
        rw [z] at hb
        cases hb
    have keepNs : ∀ {b : Addr} {m : Str → Option Value}, s1.heap.Ns b m → (hidT s1.heap H).Ns b m := by
      rintro b m ⟨o, es, ep, h1, h2, h3⟩
      refine ⟨o, es, ep, hidT_get h1 ?_, h2, h3⟩
      cases q : H b with
      | none => rfl
      | some u =>
        obtain ⟨z, _⟩ := told b u q
        subst z
        rw [scr] at h1
        cases h1
        cases (show Data.seq us.toArray _ = Data.dict es ep from h2)
    have md : Mod K mg (hidT s1.heap H) := by
      obtain ⟨mc, c1, c2⟩ := noLim
      exact ⟨keepK, keepNs nsG, ⟨mb, keepNs nsB, blt⟩, mc, keepNs c1, c2⟩
    have env : Env0 P w K mg (hidT s1.heap H) callerA [] s1 H :=
      ⟨rfl, md, fun b o hb => of_hidT hb, Nat.le_of_eq (hidT_size _ _), trivial, fun b hb => absurd (show b ∈ ([] : List Addr) from hb) List.not_mem_nil, hok, .of_eq gens⟩
    refine codeAny_mono ((g _ keepK (keepNs nsG)).go callerA [] s1 H ⟨[.ref a], []⟩ [.ref a] [.ref a] _ _ room rfl env (bnd s1 (.ref a)) (.cons rfl .nil) (want H only sq)) fun r s' z => ?_
    match r, z with
    | .error er, z => exact False.elim z
    | .ok .next, z => exact False.elim z
    | .ok .brk, z => exact False.elim z
    | .ok .cont, z => exact False.elim z
    | .ok (.ret u), z =>
      obtain ⟨v, H', os, bare, un, hok', rv, isT⟩ := z
      have isT : v = .bl true := isT
      subst isT
      cases (show u = Value.bool true from rv)
      refine ⟨rfl, OldK.of_keep fun b o hb => ?_, os, bare⟩
      cases q : H b with
      | none => exact un.keep b o hb q (fun c => absurd (show b ∈ ([] : List Addr) from c) List.not_mem_nil) List.not_mem_nil
      | some u =>
        rcases only b with c | ⟨ob, zs, c⟩
        · rw [q] at c
          cases c
        · obtain ⟨o1, _⟩ := hok b _ c
          obtain ⟨o2, _⟩ := hok' b _ (un.frzs b ob _ c)
          rw [hb] at o1
          cases o1
          exact o2
  cases inMod : K.lookup a with
  | some o =>
    have same := inK a o inMod
    rw [scr] at same
    cases same
    refine both (fun _ => none) (fun _ => .inl rfl) (.inr ⟨_, us.toArray, _, inMod, rfl, rfl, rfl, ?_, vals⟩) (fun b u c => nomatch c) fun b u c => nomatch c
    rw [List.size_toArray, ulen]
    exact short
  | none =>
    refine both (fun b => if b = a then some (.frz { cls := .type "list", data := .seq us.toArray } (.lst (ns.map V.int))) else none) (fun b => ?_) (.inl (.inr ⟨_, if_pos rfl⟩)) (fun b u c => ?_) fun b u c => ?_
    · by_cases ba : b = a
      · exact .inr ⟨_, _, if_pos ba⟩
      · exact .inl (if_neg ba)
    · by_cases ba : b = a
      · subst ba
        have c := (if_pos rfl).symm.trans c
        cases c
        exact ⟨scr, by rw [List.length_map]; exact short, us, _, vals, scr⟩
      · have c := (if_neg ba).symm.trans c
        cases c
    · by_cases ba : b = a
      · subst ba
        exact ⟨rfl, inMod⟩
      · have c := (if_neg ba).symm.trans c
        cases c
/-- the goal that the head leaves -/
theorem walkG {l : PySem.W.OpenLaw} {n lv : Nat} {q : Program} {loose : List Str} {XP : (Str → Option Value) → Heap → Prop} {YP : World → Heap → Prop} {d : DefRec} {KK : Params → PySem.W.Frag} {sp : PySem.W.Frag → Sp} {x : Str}
    (most : l.most = some n) (fits : n ≤ sizeLine) (noDef : d.params.defaults = []) (room : Room lv callerA) (isK : ∀ (w : World) (h : Heap), YP w h → (KK w.params).In h)
    (g : ∀ (w : World) (mg : Str → Option Value) (fa : Addr) (h : Heap), (KK w.params).In h → h.Ns mainGlobals mg → mg d.name = some (.ref fa) →
      ∃ fd : FuncData, (∀ (s : Shared) (u : Value), BindsTo s fd ⟨[u], []⟩ [(x, u)]) ∧ ∀ base : Heap, (KK w.params).In base → base.Ns mainGlobals mg → FnG l.prog w (KK w.params) mg base CX0 lv fa fd [x] (sp (KK w.params)))
    (want : ∀ (K : PySem.W.Frag) (H : Hp) (a : Addr) (ns : List Int), ns.length ≤ n → Only H → SqL K H a (ns.map V.int) → sp K [.ref a] H (fun v _ => v = .bl true) fun _ _ _ => False) :
    PySem.W.WalkO q loose XP YP l.row.toRowW d [] (fun f vs => PySem.call f vs) := by
  refine Att.attach_call most noDef ?_
  intro w s0 s1 mg mb fa o pm cd doc a us ns G Y ho hd hcd hmg hobj isI hlen gens
  have inK := isK w _ Y
  obtain ⟨fd, bnd, gb⟩ := g w mg fa _ inK G.T.g hmg
  exact lawG inK G.T.g G.T.b G.T.builtins G.T.nolimit gens hobj isI (Nat.le_trans hlen fits) room gb bnd fun H only sq => want _ H a ns hlen only sq
end
end DL
end

section
set_option Elab.async false
set_option linter.all false
set_option maxRecDepth 100000
set_option maxHeartbeats 1000000
/-! DLsnd5: promises of defs, calls. -/
namespace DL
open PySem PySem.Spec PyProof.Rows L2
def ArOk (K : PySem.W.Frag) (F : Addr → Prop) (H : Hp) (v : V) : Ar → Prop
  | .d x => Rp K F H v x
  | .m xs => ∃ p vs, v = .ref p ∧ H p = some (.lst vs) ∧ RpAll K F H vs xs ∧ ¬ F p
/-- the lent lists' addresses, by the arguments' places -/
def lentP (vs : List V) (as : List Ar) (i : Nat) : Option Addr := match as[i]?, vs[i]? with
  | some (.m _), some (.ref p) => some p
  | _, _ => none
/-- THE PROMISE of a def whose plain function is g -/
def spD (K : PySem.W.Frag) (n : Nat) (g : Fn) : Sp := fun vs H Q _ => ∃ (F : Addr → Prop) (as : List Ar) (r : Rt) (outs : List (List D)),
  vs.length = n ∧ Paired (ArOk K F H) vs as ∧ (∀ a, F a → ∃ xs, H a = some (.lst xs)) ∧ (∀ i j p, lentP vs as i = some p → lentP vs as j = some p → i = j) ∧ g as = some (r, outs) ∧
  ∀ v F' H', (∀ a, F a → F' a) → (∀ a, F' a → F a ∨ H a = none) → (∀ a, F' a → ∃ xs, H' a = some (.lst xs)) → (∀ b u, H b = some u → (∀ i, lentP vs as i ≠ some b) → H' b = some u) →
    (∀ i p, lentP vs as i = some p → ¬ F' p) →
    (∃ st, outsGo st as 0 = some outs ∧ ∀ i p, lentP vs as i = some p → ∃ xs ws, st.getD i none = some (.lent xs) ∧ H' p = some (.lst ws) ∧ RpAll K F' H' ws xs) →
    (∀ a xs, FL K F H a xs → FL K F' H' a xs) → (∀ a xs, STD K H a xs → STD K H' a xs) →
    RtOk K H F' H' r v → Q v H'
theorem Paired.at {α β : Type} {R : α → β → Prop} : ∀ {l : List α} {m : List β} {i : Nat} {b : β}, Paired R l m → m[i]? = some b → ∃ a, l[i]? = some a ∧ R a b
  | _, _, _, _, .nil, e => by simp at e
  | _, _, 0, _, .cons a _, e => by
    simp at e
    subst e
    exact ⟨_, rfl, a⟩
  | _, _, i + 1, _, .cons _ b, e => by
    obtain ⟨v, h1, h2⟩ := Paired.at (i := i) b (by simpa using e)
    exact ⟨v, by simpa using h1, h2⟩
theorem startD_get {n : Nat} {as : List Ar} {i : Nat} {s : SV} (h : (startD n as).getD i none = some s) : ∃ a, as[i]? = some a ∧ s = arS a := by
  unfold startD at h
  rw [List.getD_eq_getElem?_getD] at h
  by_cases hi : i < as.length
  · rw [List.getElem?_append_left (by rw [List.length_map]; exact hi), List.getElem?_map, List.getElem?_eq_getElem hi] at h
    exact ⟨as[i], List.getElem?_eq_getElem hi, (Option.some.inj h).symm⟩
  · rw [List.getElem?_append_right (by rw [List.length_map]; omega), List.getElem?_replicate] at h
    split at h <;> cases h
theorem startD_at {n : Nat} {as : List Ar} {i : Nat} {a : Ar} (h : as[i]? = some a) : (startD n as).getD i none = some (arS a) := by
  obtain ⟨hi, e⟩ := List.getElem?_eq_some_iff.mp h
  unfold startD
  rw [List.getD_eq_getElem?_getD, List.getElem?_append_left (by rw [List.length_map]; exact hi), List.getElem?_map, h]
  rfl
theorem start_at {N : List Str} {vs : List V} {i : Nat} {v : V} (h : vs[i]? = some v) : (L2.start N vs)[i]? = some (some v) := by
  obtain ⟨hi, e⟩ := List.getElem?_eq_some_iff.mp h
  unfold L2.start
  rw [List.getElem?_append_left (by rw [List.length_map]; exact hi), List.getElem?_map, h]
  rfl
section
variable {P : Program} {w : World} {K : PySem.W.Frag} {mg : Str → Option Value} {base : Heap}
/-- a def's body, read by a plain function, keeps the promise -/
theorem dl_body {n : Nat} {N : List Str} {b : DS} {t : TS} {vs : List V} {H : Hp} {Q : VK} {E : XK} (hN : n ≤ N.length) (s : SndS K t b) (h : spD K n (run N.length b) vs H Q E) : t { nx := fun _ H' => Q .non H', rt := Q } (L2.start N vs) H := by
  obtain ⟨F, as, r, outs, hl, pr, hF, hinj, hg, q⟩ := h
  obtain ⟨⟨fl, st'⟩, e1, e⟩ := bs hg
  obtain ⟨o, e2, e⟩ := bs e
  have hl2 : as.length = n := by rw [← Paired.length pr]; exact hl
  have lp : ∀ {i xs}, as[i]? = some (Ar.m xs) → ∃ p ws, lentP vs as i = some p ∧ vs[i]? = some (.ref p) ∧ H p = some (.lst ws) ∧ RpAll K F H ws xs ∧ ¬ F p := fun {i xs} ha => by
    obtain ⟨v, hv, p, ws, rfl, h1, h2, h3⟩ := Paired.at pr ha
    exact ⟨p, ws, by unfold lentP; rw [ha, hv], hv, h1, h2, h3⟩
  have lp' : ∀ {i p}, lentP vs as i = some p → ∃ xs, as[i]? = some (Ar.m xs) := fun {i p} h => by
    unfold lentP at h
    cases ha : as[i]? with
    | none => rw [ha] at h; cases h
    | some a =>
      rw [ha] at h
      cases a with
      | d x => cases h
      | m xs => exact ⟨xs, rfl⟩
  have S : Sim K H (lentP vs as) (startD N.length as) (L2.start N vs) F H := by
    refine ⟨?_, fun i x h => ?_, fun i x h => ?_, fun i x h => ?_, fun i p h => ?_, fun i p h => ?_, fun i j p a b e1 e2 => ?_, hF, fun b u h _ => h⟩
    · unfold L2.start startD
      rw [List.length_append, List.length_append, List.length_map, List.length_map, List.length_replicate, List.length_replicate, Paired.length pr]
    · obtain ⟨a, ha, hs⟩ := startD_get h
      cases a with
      | d y =>
        cases hs
        obtain ⟨v, hv, rv⟩ := Paired.at pr ha
        exact ⟨v, start_at hv, rv⟩
      | m y => cases hs
    · obtain ⟨a, ha, hs⟩ := startD_get h
      cases a <;> cases hs
    · obtain ⟨a, ha, hs⟩ := startD_get h
      cases a with
      | d y => cases hs
      | m y =>
        cases hs
        obtain ⟨p, ws, h1, h2, h3, h4, h5⟩ := lp ha
        exact ⟨p, ws, h1, start_at h2, h3, h4, h5⟩
    · obtain ⟨xs, ha⟩ := lp' h
      exact ⟨xs, startD_at ha⟩
    · obtain ⟨xs, ha⟩ := lp' h
      obtain ⟨p', ws, h1, h2, h3, _⟩ := lp ha
      rw [h] at h1
      cases h1
      rw [h3]
      exact fun z => by cases z
    · have own : ∀ k, IsOwn (startD N.length as) k → (L2.start N vs)[k]? = some (some (.ref p)) → lentP vs as k = some p := fun k ⟨xs, o⟩ e => by
        rcases o with o | o
        · obtain ⟨a, ha, hs⟩ := startD_get o
          cases a <;> cases hs
        · obtain ⟨a, ha, hs⟩ := startD_get o
          cases a with
          | d y => cases hs
          | m y =>
            obtain ⟨p', ws, h1, h2, _⟩ := lp ha
            rw [start_at h2] at e
            cases e
            exact h1
      exact hinj i j p (own i a e1) (own j b e2)
  have post : ∀ {σ' : L2.St} {F' : Addr → Prop} {H' : Hp} {v : V} {r' : Rt}, Sim K H (lentP vs as) st' σ' F' H' → FExt K H F H F' H' → RtOk K H F' H' r' v → r' = r → o = outs → Q v H' := fun {σ' F' H' v r'} S' x' rt e3 e4 => by
    subst e3
    subst e4
    refine q v F' H' x'.sub x'.new S'.frz S'.base (fun i p h => ?_) ⟨st', e2, fun i p h => ?_⟩ x'.fl x'.tup rt
    · obtain ⟨xs, h1⟩ := S'.lentE i p h
      obtain ⟨p', ws, m, _, _, _, nf⟩ := S'.lent i xs h1
      rw [h] at m
      cases m
      exact nf
    · obtain ⟨xs, h1⟩ := S'.lentE i p h
      obtain ⟨p', ws, m, _, h2, h3, _⟩ := S'.lent i xs h1
      rw [h] at m
      cases m
      exact ⟨xs, ws, h1, h2, h3⟩
  refine s H (lentP vs as) (startD N.length as) (L2.start N vs) F H fl st' _ S e1 ?_
  cases fl with
  | nx =>
    cases e
    exact fun σ' F' H' S' x' => post S' x' (r' := .d .none) .non rfl rfl
  | bk => cases e
  | ct => cases e
  | rt r' =>
    cases e
    exact fun v σ' F' H' S' x' rt => post S' x' rt rfl rfl
/-- THE RULE: a def by its body's reading -/
theorem dl_ok {x qual : Str} {st : Stmt} {f : Addr} {fd : FuncData} {N ps : List Str} {k : Nat} {b : DS} (F : Fun K x qual st f fd) (S : FnScope N ps (defScope st)) (hN : ps.length ≤ N.length)
    (hbody : ∀ (cdv : Value) (A : Around) (outer : List Env) (s : Shared) (H : Hp) (E : XK), Room k (A.deeper (envOfC qual (defScope st) s.heap.objs.size f cdv)) → (A.deeper (envOfC qual (defScope st) s.heap.objs.size f cdv)).guards = some [] →
      ∃ t, PSs (cxOf CX0 P w K mg base N qual (defScope st) f cdv A outer s H E).nox (defBody st) t ∧ SndS K t b) : FnG P w K mg base CX0 (k + 1) f fd ps (spD K ps.length (run N.length b)) := by
  obtain ⟨oc, od, kV, doc, pm, an, cdv, ct, osl, rfl, lk, isc⟩ := F.ex
  refine fnG_of lk isc S (fun vs H Q E h => let ⟨_, _, _, _, hl, _⟩ := h; hl) fun A outer s H vs Q E hr gd h => ?_
  obtain ⟨t, h1, h2⟩ := hbody cdv A outer s H E hr gd
  exact ⟨t, h1.nox, dl_body hN h2 h⟩
/-- .. for a def with defaults -/
theorem dl_okD {x qual : Str} {params : Arguments} {body : List Stmt} {scope : Scope} {dvs : List V} {kws : List (Str × V)} {f : Addr} {fd : FuncData} {N ps : List Str} {k : Nat} {b : DS} (F : FunD K x qual params body scope dvs kws f fd) (S : FnScope N ps scope) (hN : ps.length ≤ N.length)
    (hbody : ∀ (cdv : Value) (A : Around) (outer : List Env) (s : Shared) (H : Hp) (E : XK), Room k (A.deeper (envOfC qual scope s.heap.objs.size f cdv)) → (A.deeper (envOfC qual scope s.heap.objs.size f cdv)).guards = some [] →
      ∃ t, PSs (cxOf CX0 P w K mg base N qual scope f cdv A outer s H E).nox body t ∧ SndS K t b) : FnG P w K mg base CX0 (k + 1) f fd ps (spD K ps.length (run N.length b)) := by
  obtain ⟨oc, od, dV, kV, doc, pm, an, cdv, ct, osl, rfl, lk, isc, _, _⟩ := F.ex
  refine fnG_of lk isc S (fun vs H Q E h => let ⟨_, _, _, _, hl, _⟩ := h; hl) fun A outer s H vs Q E hr gd h => ?_
  obtain ⟨t, h1, h2⟩ := hbody cdv A outer s H E hr gd
  exact ⟨t, h1.nox, dl_body hN h2 h⟩
end

/-! ### calls -/
section
variable {K : PySem.W.Frag} {H0 : Hp} {M : Nat → Option Addr} {st st' st2 : DSt} {σ : L2.St} {F F' F2 : Addr → Prop} {H H' H2 H3 Hb Hc : Hp} {v w : V} {r : Rv} {x : PyData}
/-- what the arguments are behind the giving away -/
def AtOk (K : PySem.W.Frag) (F : Addr → Prop) (H : Hp) (σ : L2.St) (v : V) : Sum D Nat → Prop
  | .inl x => Rp K F H v x
  | .inr i => σ[i]? = some (some v)
theorem marsh_ok {sts : DSt} {Fs : Addr → Prop} : ∀ {rs : List Rv} {ms : List Bool} {vs : List V} {as : List (Sum D Nat)} {st st' : DSt} {F : Addr → Prop}, rs.length = ms.length → Sim K H0 M st σ F H → Ext sts σ Fs Hb st F H → RvWs K F H st σ Hb rs vs → marsh st (rs.zip ms) = some (as, st') →
    ∃ F', Sim K H0 M st' σ F' H ∧ Ext sts σ Fs Hb st' F' H ∧ Paired (AtOk K F' H σ) vs as ∧ (∀ a, F a → F' a)
  | [], [], _, as, st, st', F, hl, S, E, .nil, e => by
    cases e
    exact ⟨F, S, E, .nil, fun _ h => h⟩
  | r :: rs, false :: ms, _, as, st, st', F, hl, S, E, .cons h t, e => by
    have e : ((toD st r).bind fun p => (marsh p.2 (rs.zip ms)).bind fun q => some (Sum.inl p.1 :: q.1, q.2)) = some (as, st') := by
      have : (r :: rs).zip (false :: ms) = (r, false) :: rs.zip ms := rfl
      rw [this] at e
      exact e
    obtain ⟨p, e1, e⟩ := bs e
    obtain ⟨q, e2, e⟩ := bs e
    cases e
    obtain ⟨F1, S1, E1, r1, s1, o1, f1⟩ := toD_ok S E h e1
    obtain ⟨F2, S2, E2, r2, s2⟩ := marsh_ok (by simpa using hl) S1 E1 (t.to s1 o1 f1) e2
    exact ⟨F2, S2, E2, .cons (Rp.more s2 r1) r2, fun a z => s2 a (s1 a z)⟩
  | .sl i :: rs, true :: ms, _, as, st, st', F, hl, S, E, .cons h t, e => by
    have e : ((marsh st (rs.zip ms)).bind fun q => some (Sum.inr i :: q.1, q.2)) = some (as, st') := by
      have : (Rv.sl i :: rs).zip (true :: ms) = (Rv.sl i, true) :: rs.zip ms := rfl
      rw [this] at e
      exact e
    obtain ⟨q, e2, e⟩ := bs e
    cases e
    obtain ⟨F2, S2, E2, r2, s2⟩ := marsh_ok (by simpa using hl) S E t e2
    exact ⟨F2, S2, E2, .cons h r2, s2⟩
  | .d x :: rs, true :: ms, _, as, st, st', F, hl, S, E, _, e => by cases e
  | .tmp x :: rs, true :: ms, _, as, st, st', F, hl, S, E, _, e => by cases e
theorem lents_ok (S : Sim K H0 M st σ F H) : ∀ {vs : List V} {as : List (Sum D Nat)} {bs' : List Ar}, Paired (AtOk K F H σ) vs as → lents st as = some bs' →
    Paired (ArOk K F H) vs bs' ∧ ∀ i p, lentP vs bs' i = some p → ∃ j, as[i]? = some (.inr j) ∧ IsOwn st j ∧ σ[j]? = some (some (.ref p))
  | [], [], bs', .nil, e => by
    cases e
    exact ⟨.nil, fun i p h => by unfold lentP at h; simp at h⟩
  | v :: vs, a :: as, bs', .cons h t, e => by
    obtain ⟨x, e1, e⟩ := bs e
    obtain ⟨xs, e2, e⟩ := bs e
    cases e
    obtain ⟨p1, p2⟩ := lents_ok S t e2
    have hx : ArOk K F H v x ∧ ∀ p, (match some x, some v with | some (.m _), some (.ref p) => some p | _, _ => (none : Option Addr)) = some p → ∃ j, a = .inr j ∧ IsOwn st j ∧ σ[j]? = some (some (.ref p)) := by
      cases a with
      | inl y =>
        cases e1
        exact ⟨h, fun p z => by cases z⟩
      | inr j =>
        have h : σ[j]? = some (some v) := h
        have e1 : (match st.getD j none with
          | some (.own xs) => some (Ar.m xs)
          | some (.lent xs) => some (.m xs)
          | _ => none) = some x := e1
        cases g : st.getD j none with
        | none => rw [g] at e1; cases e1
        | some s =>
          rw [g] at e1
          cases s with
          | d y => cases e1
          | own ys =>
            cases e1
            obtain ⟨p, ws, a1, a2, a3, a4, _⟩ := S.own j ys g
            rw [h] at a1
            cases a1
            exact ⟨⟨p, ws, rfl, a2, a3, a4⟩, fun p' z => by cases z; exact ⟨j, rfl, ⟨ys, .inl g⟩, h⟩⟩
          | lent ys =>
            cases e1
            obtain ⟨p, ws, _, a1, a2, a3, a4⟩ := S.lent j ys g
            rw [h] at a1
            cases a1
            exact ⟨⟨p, ws, rfl, a2, a3, a4⟩, fun p' z => by cases z; exact ⟨j, rfl, ⟨ys, .inr g⟩, h⟩⟩
    refine ⟨.cons hx.1 p1, fun i p h => ?_⟩
    cases i with
    | zero =>
      obtain ⟨j, h1, h2, h3⟩ := hx.2 p h
      exact ⟨j, by rw [h1]; rfl, h2, h3⟩
    | succ i =>
      obtain ⟨j, h1, h2, h3⟩ := p2 i p h
      exact ⟨j, by simpa using h1, h2, h3⟩
theorem lentIx_mem : ∀ {as : List (Sum D Nat)} {i j : Nat}, as[i]? = some (.inr j) → j ∈ lentIx as
  | [], i, j, h => by simp at h
  | a :: as, 0, j, h => by
    simp at h
    subst h
    exact List.mem_cons_self
  | a :: as, i + 1, j, h => by
    have := lentIx_mem (as := as) (i := i) (j := j) (by simpa using h)
    cases a with
    | inl x => exact this
    | inr x => exact List.mem_cons_of_mem _ this
theorem lentIx_one : ∀ {as : List (Sum D Nat)} {i i' j j' : Nat}, (lentIx as).length ≤ 1 → as[i]? = some (.inr j) → as[i']? = some (.inr j') → i = i'
  | [], i, i', j, j', _, h, _ => by simp at h
  | a :: as, 0, 0, j, j', _, _, _ => rfl
  | a :: as, 0, i' + 1, j, j', hl, h, h' => by
    simp at h
    subst h
    have := lentIx_mem (as := as) (i := i') (j := j') (by simpa using h')
    have hl : (lentIx as).length + 1 ≤ 1 := hl
    cases q : lentIx as with
    | nil => rw [q] at this; simp at this
    | cons c d => rw [q] at hl; simp at hl
  | a :: as, i + 1, 0, j, j', hl, h', h => by
    simp at h
    subst h
    have := lentIx_mem (as := as) (i := i) (j := j) (by simpa using h')
    have hl : (lentIx as).length + 1 ≤ 1 := hl
    cases q : lentIx as with
    | nil => rw [q] at this; simp at this
    | cons c d => rw [q] at hl; simp at hl
  | a :: as, i + 1, i' + 1, j, j', hl, h, h' => by
    have hl2 : (lentIx as).length ≤ 1 := by
      cases a with
      | inl x => exact hl
      | inr x =>
        have hl : (lentIx as).length + 1 ≤ 1 := hl
        omega
    exact congrArg (· + 1) (lentIx_one hl2 (by simpa using h) (by simpa using h'))
/-- what outsGo gathers, and putBack lays down, of one lent list -/
theorem outs_one : ∀ {as : List Ar} {k i : Nat} {s : DSt} {outs : List (List D)} {xs ys : List D}, outsGo s as k = some outs → as[i]? = some (Ar.m xs) → (∀ j zs, as[j]? = some (.m zs) → j = i) → s.getD (k + i) none = some (.lent ys) → outs = [ys]
  | [], k, i, s, outs, xs, ys, e, h, u, g => by simp at h
  | .d x :: as, k, 0, s, outs, xs, ys, e, h, u, g => by simp at h
  | .d x :: as, k, i + 1, s, outs, xs, ys, e, h, u, g => outs_one (as := as) (k := k + 1) (i := i) e (by simpa using h) (fun j zs hj => by have := u (j + 1) zs (by simpa using hj); omega) (by rw [show k + 1 + i = k + (i + 1) by omega]; exact g)
  | .m x :: as, k, i + 1, s, outs, xs, ys, e, h, u, g => by
    have := u 0 x rfl
    omega
  | .m x :: as, k, 0, s, outs, xs, ys, e, h, u, g => by
    have e : (match s.getD k none with
      | some (.lent xs) => (outsGo s as (k + 1)).bind fun o => some (xs :: o)
      | _ => none) = some outs := e
    rw [show s.getD k none = some (.lent ys) from g] at e
    obtain ⟨o, e1, e2⟩ := bs e
    cases e2
    have : o = [] := by
      have non : ∀ (as : List Ar) (k : Nat) (o : List (List D)), (∀ (j : Nat) (zs : List D), as[j]? ≠ some (Ar.m zs)) → outsGo s as k = some o → o = [] := by
        intro as
        induction as with
        | nil => intro k o _ e; cases e; rfl
        | cons a as ih =>
          intro k o n e
          cases a with
          | d x => exact ih (k + 1) o (fun j zs h => n (j + 1) zs (by simpa using h)) e
          | m x => exact absurd rfl (n 0 x)
      exact non as (k + 1) o (fun j zs h => by have := u (j + 1) zs (by simpa using h); omega) e1
    rw [this]
theorem lents_len : ∀ {as : List (Sum D Nat)} {bs' : List Ar} {i : Nat} {xs : List D}, lents st as = some bs' → bs'[i]? = some (Ar.m xs) → ∃ j, as[i]? = some (.inr j)
  | [], bs', i, xs, e, h => by cases e; simp at h
  | a :: as, bs', i, xs, e, h => by
    obtain ⟨x, e1, e⟩ := bs e
    obtain ⟨ys, e2, e⟩ := bs e
    cases e
    cases i with
    | zero =>
      simp at h
      subst h
      cases a with
      | inl y => cases e1
      | inr j => exact ⟨j, rfl⟩
    | succ i =>
      obtain ⟨j, q⟩ := lents_len e2 (by simpa using h)
      exact ⟨j, by simpa using q⟩
/-- the state behind a call -/
theorem after_call {sts : DSt} {Fs : Addr → Prop} {vs : List V} {as : List (Sum D Nat)} {bs' : List Ar} {perm : List Nat} {dvs : List V} {more : List D} {outs : List (List D)} {rt : Rt}
    (S : Sim K H0 M st σ F H) (E : Ext sts σ Fs Hb st F H) (pa : Paired (AtOk K F H σ) vs as) (le : lents st as = some bs') (one : (lentIx as).length ≤ 1) (pb : putBack st (lentIx as) outs = some st')
    {vs2 : List V} {as2 : List Ar}
    (hl : ∀ i p, lentP vs2 as2 i = some p → ∃ j, lentIx as = [j] ∧ IsOwn st j ∧ σ[j]? = some (some (.ref p)) ∧ ∃ xs, as2[i]? = some (Ar.m xs))
    (hm : ∀ (i : Nat) (xs : List D), as2[i]? = some (Ar.m xs) → ∃ p, lentP vs2 as2 i = some p) (hu : ∀ (i j : Nat) (xs ys : List D), as2[i]? = some (Ar.m xs) → as2[j]? = some (Ar.m ys) → i = j) (hx : ∀ j, lentIx as = [j] → ∃ (i : Nat) (xs : List D), as2[i]? = some (Ar.m xs))
    (f1 : ∀ a, F a → F' a) (f2 : ∀ a, F' a → F a ∨ H a = none) (f3 : ∀ a, F' a → ∃ xs, H' a = some (.lst xs)) (f4 : ∀ b u, H b = some u → (∀ i, lentP vs2 as2 i ≠ some b) → H' b = some u)
    (f5 : ∀ i p, lentP vs2 as2 i = some p → ¬ F' p) (f6 : ∃ so, outsGo so as2 0 = some outs ∧ ∀ i p, lentP vs2 as2 i = some p → ∃ xs ws, so.getD i none = some (.lent xs) ∧ H' p = some (.lst ws) ∧ RpAll K F' H' ws xs)
    (f7 : ∀ a xs, FL K F H a xs → FL K F' H' a xs) (f8 : ∀ a xs, STD K H a xs → STD K H' a xs) (f9 : RtOk K H F' H' rt v) :
    Sim K H0 M st' σ F' H' ∧ Ext sts σ Fs Hb st' F' H' ∧ RvOk K F' H' st' σ Hb (rvOf rt) v := by
  have rp : ∀ {v : V} {x : PyData}, Rp K F H v x → Rp K F' H' v x := fun r => r.mono f7 f8
  have rpA : ∀ {v : List V} {x : List PyData}, RpAll K F H v x → RpAll K F' H' v x := fun r => r.mono f7 f8
  have nF : ∀ {p}, (∃ u, H p = some u) → ¬ F p → ¬ F' p := fun ⟨u, h⟩ n z => by
    rcases f2 _ z with z | z
    · exact n z
    · rw [h] at z; cases z
  have lentOwn : ∀ i p, lentP vs2 as2 i = some p → OwnAt st σ p := fun i p h => let ⟨j, _, h2, h3, _⟩ := hl i p h; ⟨j, h2, h3⟩
  -- st' by its slots
  have desc : (∀ j, j ∉ lentIx as → st'.getD j none = st.getD j none) ∧ st'.length = st.length ∧
      (∀ j, lentIx as = [j] → ∃ i p xs ws, lentP vs2 as2 i = some p ∧ σ[j]? = some (some (.ref p)) ∧ H' p = some (.lst ws) ∧ RpAll K F' H' ws xs ∧ ((∃ ys, st.getD j none = some (.own ys) ∧ st'.getD j none = some (.own xs)) ∨ (∃ ys, st.getD j none = some (.lent ys) ∧ st'.getD j none = some (.lent xs)))) := by
    obtain ⟨so, o1, o2⟩ := f6
    cases q : lentIx as with
    | nil =>
      rw [q] at pb
      have : outs = [] := by
        cases outs with
        | nil => rfl
        | cons a b => cases pb
      rw [this] at pb
      cases pb
      exact ⟨fun _ _ => rfl, rfl, fun j z => by cases z⟩
    | cons j rest =>
      have hr : rest = [] := by
        rw [q] at one
        cases rest with
        | nil => rfl
        | cons a b => simp at one
      subst hr
      obtain ⟨i, xs0, hi⟩ := hx j q
      obtain ⟨p, hp⟩ := hm i xs0 hi
      obtain ⟨xs, ws, g1, g2, g3⟩ := o2 i p hp
      have ho : outs = [xs] := outs_one o1 hi (fun j' zs h => hu j' i zs xs0 h hi) (by rw [Nat.zero_add]; exact g1)
      subst ho
      rw [q] at pb
      obtain ⟨j2, q2, own2, σ2, _⟩ := hl i p hp
      rw [q] at q2
      cases q2
      have pb : (match st.getD j none with
        | some (.own _) => putBack (st.set j (some (.own xs))) [] []
        | some (.lent _) => putBack (st.set j (some (.lent xs))) [] []
        | _ => none) = some st' := pb
      have hj : j < st.length := by
        obtain ⟨ys, h | h⟩ := own2
        · exact getD_lt h
        · exact getD_lt h
      cases g : st.getD j none with
      | none => rw [g] at pb; cases pb
      | some s =>
        rw [g] at pb
        cases s with
        | d y => cases pb
        | own ys =>
          cases pb
          refine ⟨fun k hk => by rw [getD_set hj, if_neg fun z => hk (by simp [z])], List.length_set, fun k hk => ?_⟩
          cases hk
          exact ⟨i, p, xs, ws, hp, σ2, g2, g3, .inl ⟨ys, g, by rw [getD_set hj, if_pos rfl]⟩⟩
        | lent ys =>
          cases pb
          refine ⟨fun k hk => by rw [getD_set hj, if_neg fun z => hk (by simp [z])], List.length_set, fun k hk => ?_⟩
          cases hk
          exact ⟨i, p, xs, ws, hp, σ2, g2, g3, .inr ⟨ys, g, by rw [getD_set hj, if_pos rfl]⟩⟩
  obtain ⟨d1, d2, d3⟩ := desc
  have isj : ∀ {j}, j ∈ lentIx as → lentIx as = [j] := fun {j} h => by
    cases q : lentIx as with
    | nil => rw [q] at h; simp at h
    | cons a b =>
      rw [q] at one h
      cases b with
      | nil => simp at h; rw [h]
      | cons c d => simp at one
  have own : ∀ j, IsOwn st' j → IsOwn st j := fun j h => by
    by_cases c : j ∈ lentIx as
    · obtain ⟨i, p, xs, ws, _, _, _, _, h1 | h1⟩ := d3 j (isj c)
      · obtain ⟨ys, h1, _⟩ := h1; exact ⟨ys, .inl h1⟩
      · obtain ⟨ys, h1, _⟩ := h1; exact ⟨ys, .inr h1⟩
    · obtain ⟨xs, h⟩ := h
      rw [d1 j c] at h
      exact ⟨xs, h⟩
  have notLent : ∀ {j p}, j ∉ lentIx as → IsOwn st j → σ[j]? = some (some (.ref p)) → ∀ i, lentP vs2 as2 i ≠ some p := fun {j p} hj oj ej i z => by
    obtain ⟨j2, q2, own2, σ2, _⟩ := hl i p z
    have := S.inj j j2 p oj own2 ej σ2
    subst this
    exact hj (by rw [q2]; simp)
  have S' : Sim K H0 M st' σ F' H' := by
    refine ⟨S.len.trans d2.symm, fun j x h => ?_, fun j x h => ?_, fun j x h => ?_, fun j p m => ?_, S.lent0, fun j k p a b => S.inj j k p (own j a) (own k b), f3, fun b u h n => ?_⟩
    · by_cases c : j ∈ lentIx as
      · obtain ⟨i, p, xs, ws, _, _, _, _, h1 | h1⟩ := d3 j (isj c)
        · obtain ⟨ys, _, h1⟩ := h1; rw [h] at h1; cases h1
        · obtain ⟨ys, _, h1⟩ := h1; rw [h] at h1; cases h1
      · rw [d1 j c] at h
        obtain ⟨v, a, b⟩ := S.dat j x h
        exact ⟨v, a, rp b⟩
    · by_cases c : j ∈ lentIx as
      · obtain ⟨i, p, xs, ws, lp, σj, hp, rr, h1 | h1⟩ := d3 j (isj c)
        · obtain ⟨ys, g, h1⟩ := h1
          rw [h] at h1
          cases h1
          obtain ⟨p', _, e1, _, _, _, h0⟩ := S.own j ys g
          rw [σj] at e1
          cases e1
          exact ⟨p, ws, σj, hp, rr, f5 i p lp, h0⟩
        · obtain ⟨ys, _, h1⟩ := h1; rw [h] at h1; cases h1
      · rw [d1 j c] at h
        obtain ⟨p, ws, a, b, cc, dd, ee⟩ := S.own j x h
        exact ⟨p, ws, a, f4 _ _ b (notLent c ⟨x, .inl h⟩ a), rpA cc, nF ⟨_, b⟩ dd, ee⟩
    · by_cases c : j ∈ lentIx as
      · obtain ⟨i, p, xs, ws, lp, σj, hp, rr, h1 | h1⟩ := d3 j (isj c)
        · obtain ⟨ys, _, h1⟩ := h1; rw [h] at h1; cases h1
        · obtain ⟨ys, g, h1⟩ := h1
          rw [h] at h1
          cases h1
          obtain ⟨p', _, m, e1, _⟩ := S.lent j ys g
          rw [σj] at e1
          cases e1
          exact ⟨p, ws, m, σj, hp, rr, f5 i p lp⟩
      · rw [d1 j c] at h
        obtain ⟨p, ws, m, a, b, cc, dd⟩ := S.lent j x h
        exact ⟨p, ws, m, a, f4 _ _ b (notLent c ⟨x, .inr h⟩ a), rpA cc, nF ⟨_, b⟩ dd⟩
    · obtain ⟨ys, h⟩ := S.lentE j p m
      by_cases c : j ∈ lentIx as
      · obtain ⟨i, p', xs, ws, lp, σj, hp, rr, h1 | h1⟩ := d3 j (isj c)
        · obtain ⟨zs, g, _⟩ := h1; rw [h] at g; cases g
        · obtain ⟨zs, _, h1⟩ := h1; exact ⟨xs, h1⟩
      · exact ⟨ys, by rw [d1 j c]; exact h⟩
    · refine f4 _ _ (S.base b u h n) fun i z => ?_
      obtain ⟨j, _, ⟨ys, g | g⟩, σj, _⟩ := hl i b z
      · obtain ⟨p', _, e1, _, _, _, h0⟩ := S.own j ys g
        rw [σj] at e1
        cases e1
        rw [h] at h0
        cases h0
      · obtain ⟨p', _, m, e1, _⟩ := S.lent j ys g
        rw [σj] at e1
        cases e1
        exact n j m
  have E' : Ext st σ F H st' F' H' := by
    refine ⟨f1, fun a h => ?_, fun b u h n => f4 b u h fun i z => n (lentOwn i b z), fun b h => ?_, own⟩
    · rcases f2 a h with z | z
      · exact .inl z
      · exact .inr (.inl z)
    · cases q : H b with
      | none => exact absurd q h
      | some u =>
        by_cases c : ∃ i, lentP vs2 as2 i = some b
        · obtain ⟨i, c⟩ := c
          obtain ⟨so, _, o2⟩ := f6
          obtain ⟨_, ws, _, g, _⟩ := o2 i b c
          rw [g]
          exact fun z => by cases z
        · rw [f4 b u q fun i z => c ⟨i, z⟩]
          exact fun z => by cases z
  refine ⟨S', E.trans E', ?_⟩
  cases rt with
  | d x => exact f9
  | own xs =>
    obtain ⟨p, ws, e1, e2, e3, e4, e5⟩ := f9
    refine ⟨p, ws, e1, e2, e3, e4, fun z => ?_, Classical.byContradiction fun z => E.live p z e5⟩
    obtain ⟨⟨ys, h⟩, _⟩ := S.atOwn (z.imp own)
    rw [e5] at h
    cases h
end
end DL
end

section
set_option Elab.async false
set_option linter.all false
set_option maxRecDepth 100000
set_option maxHeartbeats 1000000
/-! DLsnd6: the calls' readings; walked things; what the operators and built-ins ask. -/
namespace DL
open PySem PySem.Spec PyProof.Rows L2
section
variable {K : PySem.W.Frag} {H0 : Hp} {M : Nat → Option Addr} {st st' st2 : DSt} {σ : L2.St} {F F' F2 : Addr → Prop} {H H' H2 H3 Hb Hc : Hp} {v w : V} {r : Rv} {x : PyData}
theorem RvWs.length : ∀ {rs : List Rv} {vs : List V}, RvWs K F H st σ Hb rs vs → rs.length = vs.length
  | _, _, .nil => rfl
  | _, _, .cons _ t => congrArg (· + 1) (RvWs.length t)
theorem RvWs.app : ∀ {rs ss : List Rv} {vs ws : List V}, RvWs K F H st σ Hb rs vs → RvWs K F H st σ Hb ss ws → RvWs K F H st σ Hb (rs ++ ss) (vs ++ ws)
  | _, _, _, _, .nil, h => h
  | _, _, _, _, .cons a t, h => .cons a (RvWs.app t h)
theorem paired_app {α β : Type} {R : α → β → Prop} : ∀ {a b : List α} {c d : List β}, Paired R a c → Paired R b d → Paired R (a ++ b) (c ++ d)
  | _, _, _, _, .nil, h => h
  | _, _, _, _, .cons x y, h => .cons x (paired_app y h)
theorem arD : ∀ {vs : List V} {xs : List PyData}, RpAll K F H vs xs → Paired (ArOk K F H) vs (xs.map Ar.d)
  | _, _, .nil => .nil
  | _, _, .cons a b => .cons a (arD b)
theorem lentP_app {vs dvs : List V} {as : List Ar} {more : List PyData} (hl : vs.length = as.length) {i : Nat} {p : Addr} (h : lentP (vs ++ dvs) (as ++ more.map Ar.d) i = some p) : lentP vs as i = some p := by
  by_cases hi : i < as.length
  · unfold lentP at h ⊢
    rw [List.getElem?_append_left hi, List.getElem?_append_left (by omega)] at h
    exact h
  · unfold lentP at h
    rw [List.getElem?_append_right (by omega), List.getElem?_map] at h
    cases q : more[i - as.length]? with
    | none => rw [q] at h; cases h
    | some y => rw [q] at h; cases h
theorem mAt_app {as : List Ar} {more : List PyData} {i : Nat} {xs : List PyData} (h : (as ++ more.map Ar.d)[i]? = some (Ar.m xs)) : as[i]? = some (Ar.m xs) := by
  by_cases hi : i < as.length
  · rw [List.getElem?_append_left hi] at h
    exact h
  · rw [List.getElem?_append_right (by omega), List.getElem?_map] at h
    cases q : more[i - as.length]? with
    | none => rw [q] at h; cases h
    | some y => rw [q] at h; cases h
theorem constD {dvs : List V} {more : List PyData} (hd : ∀ (F : Addr → Prop) (H : Hp), RpAll K F H dvs more) : more.length = dvs.length := ((hd (fun _ => False) (fun _ => none)).length).symm
/-- f(e, ..) -/
theorem snd_call {g : Fn} {n : Nat} {modes : List Bool} {dvs : List V} {more : List PyData} {E : XK} {t : TA} {f : DA} (hd : ∀ (F : Addr → Prop) (H : Hp), RpAll K F H dvs more) (hn : modes.length + more.length = n) (a : SndA K t f) : SndE K (tCall (spD K n g) dvs E t) (dCall g modes more f) := by
  intro H0 M st σ F H r st' Q S e q
  obtain ⟨⟨rs, s1⟩, e1, e⟩ := bs e
  obtain ⟨⟨as, s2⟩, e2, e⟩ := bs e
  refine a H0 M st σ F H rs s1 _ S e1 fun vs F1 H1 S1 E1 f1 r1 => ?_
  by_cases c : (lentIx as).length ≤ 1 ∧ rs.length = modes.length
  · rw [if_pos c] at e
    obtain ⟨one, hlen⟩ := c
    obtain ⟨bs', e3, e⟩ := bs e
    obtain ⟨⟨rt, outs⟩, e4, e⟩ := bs e
    obtain ⟨s3, e5, e⟩ := bs e
    cases e
    obtain ⟨F2, S2, E2, pa, sub2⟩ := marsh_ok hlen S1 E1 r1 e2
    obtain ⟨pb1, pb2⟩ := lents_ok S2 pa e3
    have lb : vs.length = bs'.length := Paired.length pb1
    have lv : vs.length = modes.length := by rw [← r1.length, hlen]
    have pat : ∀ i p, lentP (vs ++ dvs) (bs' ++ more.map Ar.d) i = some p → ∃ j, lentIx as = [j] ∧ IsOwn s2 j ∧ σ[j]? = some (some (.ref p)) ∧ ∃ xs, (bs' ++ more.map Ar.d)[i]? = some (Ar.m xs) := fun i p h => by
      have h' := lentP_app lb h
      obtain ⟨j, h1, h2, h3⟩ := pb2 i p h'
      refine ⟨j, ?_, h2, h3, ?_⟩
      · have := lentIx_mem h1
        cases q : lentIx as with
        | nil => rw [q] at this; simp at this
        | cons a b =>
          rw [q] at one this
          cases b with
          | nil => simp at this; rw [this]
          | cons c d => simp at one
      · unfold lentP at h
        cases z : (bs' ++ more.map Ar.d)[i]? with
        | none => rw [z] at h; cases h
        | some y =>
          rw [z] at h
          cases y with
          | d y => cases h
          | m y => exact ⟨y, rfl⟩
    have mat : ∀ (i : Nat) (xs : List PyData), (bs' ++ more.map Ar.d)[i]? = some (Ar.m xs) → ∃ p, lentP (vs ++ dvs) (bs' ++ more.map Ar.d) i = some p := fun i xs h => by
      have h' := mAt_app h
      obtain ⟨v, hv, p, ws, rfl, _⟩ := Paired.at pb1 h'
      refine ⟨p, ?_⟩
      unfold lentP
      obtain ⟨hi, _⟩ := List.getElem?_eq_some_iff.mp hv
      rw [h, List.getElem?_append_left hi, hv]
    have uniq : ∀ (i j : Nat) (xs ys : List PyData), (bs' ++ more.map Ar.d)[i]? = some (Ar.m xs) → (bs' ++ more.map Ar.d)[j]? = some (Ar.m ys) → i = j := fun i j xs ys h h' => by
      obtain ⟨k, hk⟩ := lents_len e3 (mAt_app h)
      obtain ⟨l, hl⟩ := lents_len e3 (mAt_app h')
      exact lentIx_one one hk hl
    have ex : ∀ j, lentIx as = [j] → ∃ (i : Nat) (xs : List PyData), (bs' ++ more.map Ar.d)[i]? = some (Ar.m xs) := fun j hj => by
      have find : ∀ (as : List (Sum PyData Nat)) (bs' : List Ar) (j : Nat), j ∈ lentIx as → lents s2 as = some bs' → ∃ (i : Nat) (xs : List PyData), bs'[i]? = some (Ar.m xs) := by
        intro as
        induction as with
        | nil => intro bs' j h _; simp [lentIx] at h
        | cons a as ih =>
          intro bs' j h e
          obtain ⟨x, e1, e⟩ := bs e
          obtain ⟨ys, e2, e⟩ := bs e
          cases e
          cases a with
          | inl y =>
            obtain ⟨i, xs, h1⟩ := ih ys j h e2
            exact ⟨i + 1, xs, by simpa using h1⟩
          | inr k =>
            have e1 : (match s2.getD k none with
              | some (.own xs) => some (Ar.m xs)
              | some (.lent xs) => some (.m xs)
              | _ => none) = some x := e1
            cases g : s2.getD k none with
            | none => rw [g] at e1; cases e1
            | some s =>
              rw [g] at e1
              cases s with
              | d y => cases e1
              | own ys => cases e1; exact ⟨0, ys, rfl⟩
              | lent ys => cases e1; exact ⟨0, ys, rfl⟩
      obtain ⟨i, xs, h⟩ := find as bs' j (by rw [hj]; simp) e3
      obtain ⟨hi, _⟩ := List.getElem?_eq_some_iff.mp h
      exact ⟨i, xs, by rw [List.getElem?_append_left hi]; exact h⟩
    refine ⟨F2, bs' ++ more.map Ar.d, rt, outs, ?_, paired_app pb1 (arD (hd F2 H1)), S2.frz, fun i j p h h' => ?_, e4, fun v F' H' g1 g2 g3 g4 g5 g6 g7 g8 g9 => ?_⟩
    · rw [List.length_append, lv, ← constD hd]
      exact hn
    · obtain ⟨_, _, _, _, xs, h1⟩ := pat i p h
      obtain ⟨_, _, _, _, ys, h2⟩ := pat j p h'
      exact uniq i j xs ys h1 h2
    · obtain ⟨S3, E3, R3⟩ := after_call (perm := []) (dvs := []) (more := []) S2 E2 pa e3 one e5 pat mat uniq ex g1 g2 g3 g4 g5 g6 g7 g8 g9
      exact q v F' H' S3 E3 trivial R3
  · rw [if_neg c] at e
    cases e

/-! ### calls with names -/
theorem RpAll.permute {vs : List V} {xs : List PyData} (h : RpAll K F H vs xs) : ∀ perm : List Nat, RpAll K F H (DL.permute perm vs) (DL.permute perm xs)
  | [] => .nil
  | k :: perm => by
    rw [permute_cons, permute_cons]
    cases q : xs[k]? with
    | none =>
      have : vs[k]? = none := by
        rw [List.getElem?_eq_none_iff] at q ⊢
        rw [h.length]
        exact q
      rw [this]
      exact h.permute perm
    | some x =>
      obtain ⟨v, e, r⟩ := h.get q
      rw [e]
      exact .cons r (h.permute perm)
end
section
variable {K : PySem.W.Frag} {H0 : Hp} {M : Nat → Option Addr} {st st' st2 : DSt} {σ : L2.St} {F F' F2 : Addr → Prop} {H H' H2 H3 Hb Hc : Hp} {v w : V} {r : Rv} {x : PyData}
theorem lentP_d {vs : List V} {xs : List PyData} {i : Nat} : lentP vs (xs.map Ar.d) i = none := by
  unfold lentP
  rw [List.getElem?_map]
  cases q : xs[i]? with
  | none => rfl
  | some y => rfl
theorem snd_callP {g : Fn} {n m l : Nat} {perm : List Nat} {dvs : List V} {more : List PyData} {E : XK} {t tk : TA} {f f2 : DA} (hd : ∀ (F : Addr → Prop) (H : Hp), RpAll K F H dvs more) (hl : (permute perm (List.replicate (n + m + more.length) ())).length = l) (a : SndA K t f) (b : SndA K tk f2) :
    SndE K (tCallP n m perm dvs (spD K l g) E t tk) (dCallK g n m perm more f f2) := by
  intro H0 M st σ F H r st' Q S e q
  obtain ⟨⟨rs, s1⟩, e1, e⟩ := bs e
  obtain ⟨⟨rs2, s2⟩, e2, e⟩ := bs e
  obtain ⟨⟨xs, s3⟩, e3, e⟩ := bs e
  refine a H0 M st σ F H rs s1 _ S e1 fun vs F1 H1 S1 E1 f1 r1 => ?_
  refine b H0 M s1 σ F1 H1 rs2 s2 _ S1 e2 fun zs F2 H2 S2 E2 f2 r2 => ?_
  by_cases c : rs.length = n ∧ rs2.length = m
  · rw [if_pos c] at e
    obtain ⟨⟨rt, outs⟩, e4, e⟩ := bs e
    cases e
    obtain ⟨F3, S3, E3, rr, _⟩ := toDs_ok S2 (E1.trans E2) ((r1.ext S1 E2 trivial).app (r2.birth E1.live)) e3
    have l1 : vs.length = n := by rw [← r1.length]; exact c.1
    have l2 : zs.length = m := by rw [← r2.length]; exact c.2
    have pr : RpAll K F3 H2 (permute perm (vs ++ zs ++ dvs)) (permute perm (xs ++ more)) := (rr.append (hd F3 H2)).permute perm
    refine ⟨l1, l2, F3, (permute perm (xs ++ more)).map Ar.d, rt, outs, ?_, arD pr, S3.frz, fun i j p h _ => ?_, e4, fun v F' H' g1 g2 g3 g4 g5 g6 g7 g8 g9 => ?_⟩
    · have : ∀ {α β : Type} (perm : List Nat) (a : List α) (b : List β), a.length = b.length → (permute perm a).length = (permute perm b).length := by
        intro α β perm a b h
        induction perm with
        | nil => rfl
        | cons k perm ih =>
          rw [permute_cons, permute_cons]
          by_cases hk : k < a.length
          · rw [List.getElem?_eq_getElem hk, List.getElem?_eq_getElem (by omega)]
            exact congrArg (· + 1) ih
          · rw [List.getElem?_eq_none (by omega), List.getElem?_eq_none (by omega)]
            exact ih
      rw [this perm (vs ++ zs ++ dvs) (List.replicate (n + m + more.length) ()) (by rw [List.length_append, List.length_append, List.length_replicate, l1, l2, constD hd])]
      exact hl
    · rw [lentP_d] at h
      cases h
    · obtain ⟨so, o1, o2⟩ := g6
      have ho : outs = [] := by
        have non : ∀ (ys : List PyData) (k : Nat) (o : List (List PyData)), outsGo so (ys.map Ar.d) k = some o → o = [] := by
          intro ys
          induction ys with
          | nil => intro k o e; cases e; rfl
          | cons a ys ih => intro k o e; exact ih (k + 1) o e
        exact non _ _ _ o1
      subst ho
      obtain ⟨S4, E4, R4⟩ := after_call (perm := []) (dvs := []) (more := []) (vs := []) (as := []) (bs' := []) (outs := []) (st' := s3) S3 E3 .nil rfl (Nat.zero_le _) rfl
        (fun i p h => by rw [lentP_d] at h; cases h) (fun i ys h => by rw [List.getElem?_map] at h; cases z : (permute perm (xs ++ more))[i]? <;> rw [z] at h <;> cases h) (fun i j ys zs h => by rw [List.getElem?_map] at h; cases z : (permute perm (xs ++ more))[i]? <;> rw [z] at h <;> cases h)
        (fun j h => by cases h) g1 g2 g3 g4 g5 ⟨so, o1, o2⟩ g7 g8 g9
      exact q v F' H' S4 E4 trivial R4
  · rw [if_neg c] at e
    cases e
end

/-! ### walked things -/
section
variable {K : PySem.W.Frag} {F1 : Addr → Prop} {H1 : Hp} {a b : Addr} {vs ws : List V} {xs ys : List PyData}
theorem wd_list (h : FL K F1 H1 a vs) (r : RpAll K F1 H1 vs xs) : WalkD K (Itl K a) xs F1 H1 where
  goes := fun i H hi g => by
    obtain ⟨d, e⟩ : ∃ d, xs[i]? = some d := ⟨xs[i], List.getElem?_eq_getElem hi⟩
    obtain ⟨v, e1, _⟩ := r.get e
    exact ⟨vs, v, g.1 _ _ h, e1⟩
  stops := fun H g => ⟨vs, g.1 _ _ h, by rw [r.length]; exact Nat.le_refl _⟩
  yields := fun i H x H' F hi g mono y => by
    obtain ⟨e, y⟩ := y
    subst e
    have := y vs (g.1 _ _ h)
    obtain ⟨d, e1, r1⟩ := r.got this
    exact ⟨fun _ _ z => z, d, e1, mono _ _ r1⟩
theorem wd_tup (h : SqT K H1 a vs) (r : RpAll K F1 H1 vs xs) : WalkD K (Itt K a) xs F1 H1 where
  goes := fun i H hi g => by
    obtain ⟨d, e⟩ : ∃ d, xs[i]? = some d := ⟨xs[i], List.getElem?_eq_getElem hi⟩
    obtain ⟨v, e1, _⟩ := r.get e
    exact ⟨vs, v, g.2 _ (some _) h, e1⟩
  stops := fun H g => ⟨vs, g.2 _ (some _) h, by rw [r.length]; exact Nat.le_refl _⟩
  yields := fun i H x H' F hi g mono y => by
    obtain ⟨e, y⟩ := y
    subst e
    have := y vs (g.2 _ (some _) h)
    obtain ⟨d, e1, r1⟩ := r.got this
    exact ⟨fun _ _ z => z, d, e1, mono _ _ r1⟩
theorem wd_range {lo : Int} {n : Nat} : WalkD K (Itr lo n) ((List.range n).map fun i => PyData.int (lo + (i : Nat))) F1 H1 where
  goes := fun i H hi g => by
    rw [List.length_map, List.length_range] at hi
    exact hi
  stops := fun H g => by
    rw [List.length_map, List.length_range]
    exact Nat.le_refl _
  yields := fun i H x H' F hi g mono y => by
    rw [List.length_map, List.length_range] at hi
    obtain ⟨e, y⟩ := y
    subst e
    subst y
    exact ⟨fun _ _ z => z, _, by rw [List.getElem?_map, List.getElem?_range hi]; rfl, .int _⟩
theorem wd_zip (h : FL K F1 H1 a vs) (r : RpAll K F1 H1 vs xs) (h2 : FL K F1 H1 b ws) (r2 : RpAll K F1 H1 ws ys) : WalkD K (Itz K a b) ((xs.zip ys).map fun p => PyData.tuple [p.1, p.2]) F1 H1 where
  goes := fun i H hi g => by
    rw [List.length_map, List.length_zip] at hi
    obtain ⟨v, e1, _⟩ := r.get (List.getElem?_eq_getElem (show i < xs.length by omega))
    obtain ⟨w, e2, _⟩ := r2.get (List.getElem?_eq_getElem (show i < ys.length by omega))
    exact ⟨vs, ws, v, w, g.1 _ _ h, g.1 _ _ h2, e1, e2⟩
  stops := fun H g => by
    rw [List.length_map, List.length_zip]
    refine ⟨vs, ws, g.1 _ _ h, g.1 _ _ h2, ?_⟩
    rw [r.length, r2.length]
    omega
  yields := fun i H x H' F hi g mono y => by
    rw [List.length_map, List.length_zip] at hi
    obtain ⟨T, v, w, h3, h4, h5, h6, h7⟩ := y
    subst h3 h5
    obtain ⟨d, e1, q1⟩ := r.got (h6 _ (g.1 _ _ h))
    obtain ⟨d2, e2, q2⟩ := r2.got (h7 _ (g.1 _ _ h2))
    refine ⟨same_upd h4, .tuple [d, d2], ?_, .tup (SqT.of upd_same) (.cons ((mono _ _ q1).grow (same_upd h4)) (.cons ((mono _ _ q2).grow (same_upd h4)) .nil))⟩
    rw [List.getElem?_map, show (xs.zip ys)[i]? = some (d, d2) from List.getElem?_zip_eq_some.mpr ⟨e1, e2⟩]
    rfl
theorem wd_zipT (h : SqT K H1 a vs) (r : RpAll K F1 H1 vs xs) (h2 : SqT K H1 b ws) (r2 : RpAll K F1 H1 ws ys) : WalkD K (RZ.ItzT K a b) ((xs.zip ys).map fun p => PyData.tuple [p.1, p.2]) F1 H1 where
  goes := fun i H hi g => by
    rw [List.length_map, List.length_zip] at hi
    obtain ⟨v, e1, _⟩ := r.get (List.getElem?_eq_getElem (show i < xs.length by omega))
    obtain ⟨w, e2, _⟩ := r2.get (List.getElem?_eq_getElem (show i < ys.length by omega))
    exact ⟨vs, ws, v, w, g.2 _ (some _) h, g.2 _ (some _) h2, e1, e2⟩
  stops := fun H g => by
    rw [List.length_map, List.length_zip]
    refine ⟨vs, ws, g.2 _ (some _) h, g.2 _ (some _) h2, ?_⟩
    rw [r.length, r2.length]
    omega
  yields := fun i H x H' F hi g mono y => by
    rw [List.length_map, List.length_zip] at hi
    obtain ⟨T, v, w, h3, h4, h5, h6, h7⟩ := y
    subst h3 h5
    obtain ⟨d, e1, q1⟩ := r.got (h6 _ (g.2 _ (some _) h))
    obtain ⟨d2, e2, q2⟩ := r2.got (h7 _ (g.2 _ (some _) h2))
    refine ⟨same_upd h4, .tuple [d, d2], ?_, .tup (SqT.of upd_same) (.cons ((mono _ _ q1).grow (same_upd h4)) (.cons ((mono _ _ q2).grow (same_upd h4)) .nil))⟩
    rw [List.getElem?_map, show (xs.zip ys)[i]? = some (d, d2) from List.getElem?_zip_eq_some.mpr ⟨e1, e2⟩]
    rfl
theorem wd_enum (h : FL K F1 H1 a vs) (r : RpAll K F1 H1 vs xs) : WalkD K (Ite K a) (xs.zipIdx.map fun p => PyData.tuple [.int (p.2 : Nat), p.1]) F1 H1 where
  goes := fun i H hi g => by
    rw [List.length_map, List.length_zipIdx] at hi
    obtain ⟨v, e1, _⟩ := r.get (List.getElem?_eq_getElem hi)
    exact ⟨vs, v, g.1 _ _ h, e1⟩
  stops := fun H g => by
    rw [List.length_map, List.length_zipIdx]
    exact ⟨vs, g.1 _ _ h, by rw [r.length]; exact Nat.le_refl _⟩
  yields := fun i H x H' F hi g mono y => by
    rw [List.length_map, List.length_zipIdx] at hi
    obtain ⟨T, v, h3, h4, h5, h6⟩ := y
    subst h3 h5
    obtain ⟨d, e1, q1⟩ := r.got (h6 _ (g.1 _ _ h))
    refine ⟨same_upd h4, .tuple [.int (i : Nat), d], ?_, .tup (SqT.of upd_same) (.cons (.int _) (.cons ((mono _ _ q1).grow (same_upd h4)) .nil))⟩
    rw [List.getElem?_map, List.getElem?_zipIdx, e1]
    simp
end
section
variable {K : PySem.W.Frag}
theorem snd_ilist {t : TE} {f : DE} (a : SndE K t f) : SndI K (L2.iList K t) (dIter DL.iList f) := by
  intro H0 M st σ F H ds st' R S e q
  obtain ⟨p, e1, e⟩ := bs e
  obtain ⟨⟨y, s2⟩, e2, e⟩ := bs e
  obtain ⟨zs, e3, e⟩ := bs e
  cases e
  refine a H0 M st σ F H p.1 p.2 _ S e1 fun v F1 H1 S1 E1 f1 r1 => ?_
  obtain ⟨F2, S2, E2, r2, _⟩ := toD_ok S1 E1 r1.weak e2
  cases y <;> try (cases e3; done)
  cases e3
  cases r2 with
  | lst h hs => exact ⟨_, rfl, ⟨_, h.sql⟩, q _ F2 H1 S2 E2 (wd_list h hs)⟩
theorem snd_itup {t : TE} {f : DE} (a : SndE K t f) : SndI K (L2.iTup K t) (dIter DL.iTup f) := by
  intro H0 M st σ F H ds st' R S e q
  obtain ⟨p, e1, e⟩ := bs e
  obtain ⟨⟨y, s2⟩, e2, e⟩ := bs e
  obtain ⟨zs, e3, e⟩ := bs e
  cases e
  refine a H0 M st σ F H p.1 p.2 _ S e1 fun v F1 H1 S1 E1 f1 r1 => ?_
  obtain ⟨F2, S2, E2, r2, _⟩ := toD_ok S1 E1 r1.weak e2
  cases y <;> try (cases e3; done)
  cases e3
  cases r2 with
  | tup h hs => exact ⟨_, rfl, ⟨_, h⟩, q _ F2 H1 S2 E2 (wd_tup h hs)⟩
theorem snd_irange1 {t : TA} {f : DA} (a : SndA K t f) : SndI K (iRng1 t) (dIterA iRange1 f) := by
  intro H0 M st σ F H ds st' R S e q
  obtain ⟨p, e1, e⟩ := bs e
  obtain ⟨⟨ys, s2⟩, e2, e⟩ := bs e
  obtain ⟨zs, e3, e⟩ := bs e
  cases e
  refine a H0 M st σ F H p.1 p.2 _ S e1 fun vs F1 H1 S1 E1 f1 r1 => ?_
  obtain ⟨F2, S2, E2, rr, _⟩ := toDs_ok S1 E1 r1 e2
  match ys, vs, rr, e3 with
  | [.int n], [_], .cons (.int _) .nil, e3 =>
    have e3 : (if -(2 ^ 62) ≤ n ∧ n < 2 ^ 62 then some ((List.range n.toNat).map fun i => PyData.int (0 + (i : Nat))) else none) = some ds := e3
    by_cases c : -(2 ^ 62) ≤ n ∧ n < 2 ^ 62
    · rw [if_pos c] at e3
      cases e3
      exact ⟨n, rfl, c.1, c.2, q _ F2 H1 S2 E2 wd_range⟩
    · rw [if_neg c] at e3
      cases e3
theorem snd_irange2 {t : TA} {f : DA} (a : SndA K t f) : SndI K (iRng2 t) (dIterA iRange2 f) := by
  intro H0 M st σ F H ds st' R S e q
  obtain ⟨p, e1, e⟩ := bs e
  obtain ⟨⟨ys, s2⟩, e2, e⟩ := bs e
  obtain ⟨zs, e3, e⟩ := bs e
  cases e
  refine a H0 M st σ F H p.1 p.2 _ S e1 fun vs F1 H1 S1 E1 f1 r1 => ?_
  obtain ⟨F2, S2, E2, rr, _⟩ := toDs_ok S1 E1 r1 e2
  match ys, vs, rr, e3 with
  | [.int m, .int n], [_, _], .cons (.int _) (.cons (.int _) .nil), e3 =>
    have e3 : (if -(2 ^ 62) ≤ m ∧ m < 2 ^ 62 ∧ -(2 ^ 62) ≤ n ∧ n < 2 ^ 62 then some ((List.range (n - m).toNat).map fun i => PyData.int (m + (i : Nat))) else none) = some ds := e3
    by_cases c : -(2 ^ 62) ≤ m ∧ m < 2 ^ 62 ∧ -(2 ^ 62) ≤ n ∧ n < 2 ^ 62
    · rw [if_pos c] at e3
      cases e3
      exact ⟨m, n, rfl, c, q _ F2 H1 S2 E2 wd_range⟩
    · rw [if_neg c] at e3
      cases e3
theorem snd_izip {t : TA} {f : DA} (a : SndA K t f) : SndI K (RZ.iZipA K t) (dIterA DL.iZip f) := by
  intro H0 M st σ F H ds st' R S e q
  obtain ⟨p, e1, e⟩ := bs e
  obtain ⟨⟨ys, s2⟩, e2, e⟩ := bs e
  obtain ⟨zs, e3, e⟩ := bs e
  cases e
  refine a H0 M st σ F H p.1 p.2 _ S e1 fun vs F1 H1 S1 E1 f1 r1 => ?_
  obtain ⟨F2, S2, E2, rr, _⟩ := toDs_ok S1 E1 r1 e2
  match ys, vs, rr, e3 with
  | [.list m, .list n], [_, _], .cons (.lst h1 r1) (.cons (.lst h2 r2) .nil), e3 =>
    cases e3
    exact ⟨_, _, _, _, rfl, .inl ⟨h1.sql, h2.sql, q _ F2 H1 S2 E2 (wd_zip h1 r1 h2 r2)⟩⟩
  | [.tuple m, .tuple n], [_, _], .cons (.tup h1 r1) (.cons (.tup h2 r2) .nil), e3 =>
    cases e3
    exact ⟨_, _, _, _, rfl, .inr ⟨h1, h2, q _ F2 H1 S2 E2 (wd_zipT h1 r1 h2 r2)⟩⟩
theorem snd_ienum {t : TA} {f : DA} (a : SndA K t f) : SndI K (L2.iEnum K t) (dIterA DL.iEnum f) := by
  intro H0 M st σ F H ds st' R S e q
  obtain ⟨p, e1, e⟩ := bs e
  obtain ⟨⟨ys, s2⟩, e2, e⟩ := bs e
  obtain ⟨zs, e3, e⟩ := bs e
  cases e
  refine a H0 M st σ F H p.1 p.2 _ S e1 fun vs F1 H1 S1 E1 f1 r1 => ?_
  obtain ⟨F2, S2, E2, rr, _⟩ := toDs_ok S1 E1 r1 e2
  match ys, vs, rr, e3 with
  | [.list m], [_], .cons (.lst h1 r1) .nil, e3 =>
    cases e3
    exact ⟨_, _, rfl, h1.sql, q _ F2 H1 S2 E2 (wd_enum h1 r1)⟩
end
end DL
end

section
set_option Elab.async false
set_option linter.all false
set_option maxRecDepth 100000
set_option maxHeartbeats 1000000
/-! DLprim: what operators and built-ins ask and make, over data. -/
namespace DL
open PySem PySem.Spec PyProof.Rows L2

/-! ### rules of one's own -/
section
variable {X : Cx}
/-- list + list, whatever stands behind them -/
def rCatS (K : PySem.W.Frag) : R2 := fun x y H Q => ∃ l b xs zs, x = .ref l ∧ y = .ref b ∧ SqL K H l xs ∧ SqL K H b zs ∧ xs.length + zs.length ≤ sizeLine ∧ ∀ p, H p = none → Q (.ref p) (upd H p (.lst (xs ++ zs)))
theorem op_catS : OpR X (binaryOp .Add) (rCatS X.K) := by
  intro pins s σ H x y v u Q I rx ry h
  obtain ⟨l, b, xs, zs, rfl, rfl, hl, hb, hz, q⟩ := h
  cases rx
  cases ry
  obtain ⟨its, r, ⟨⟨c1, d1, t1, s1⟩, n, g1, g2, _, g3⟩, _⟩ := I.list hl
  obtain ⟨its2, r2, ⟨⟨c2, d2, t2, s2⟩, m, k1, k2, _, k3⟩, _⟩ := I.list hb
  simp only at g2 g3 k2 k3
  subst g2 g3 k2 k3
  have z1 := r.length
  have z2 := r2.length
  refine concat_meets ⟨_, g1, rfl⟩ ⟨_, k1, rfl⟩ noFill_list_add seq_list_add PySem.F.slot_list_add PySem.F.entry_list_add (PySem.F.args_list_add_2 _ _) (list_addW l b its.toArray its2.toArray n m d1 d2 s1 s2 (by rw [List.size_toArray, List.size_toArray]; omega)) ⟨g1, k1, ?_⟩
  have ea : its.toArray ++ its2.toArray = (its ++ its2).toArray := by simp
  rw [ea]
  exact ⟨.ref s.heap.objs.size, _, I.lnew (t' := s.toks) (r.append r2) (by rw [List.length_append]; exact hz), rfl, q _ I.fresh⟩
/-- list * int -/
def rRepS (K : PySem.W.Frag) : R2 := fun x y H Q => ∃ l k xs, x = .ref l ∧ y = .int k ∧ SqL K H l xs ∧ -(2 ^ 63) ≤ k ∧ k < 2 ^ 63 ∧ xs.length * k.toNat ≤ sizeLine ∧ ∀ p, H p = none → Q (.ref p) (upd H p (.lst (List.replicate k.toNat xs).flatten))
theorem op_repS : OpR X (binaryOp .Mult) (rRepS X.K) := by
  intro pins s σ H x y v u Q I rx ry h
  obtain ⟨l, k, xs, rfl, rfl, hl, h1, h2, hz, q⟩ := h
  cases rx
  obtain ⟨t, rfl⟩ := ry
  obtain ⟨its, r, ⟨⟨c1, d1, t1, s1⟩, n, g1, g2, _, g3⟩, _⟩ := I.list hl
  simp only at g2 g3
  subst g2 g3
  have z1 := r.length
  have cap : its.toArray.size * k.toNat ≤ sizeLine := by rw [List.size_toArray, ← z1]; exact hz
  have c1 : ¬ (!Builtin.List.listFitsIndex k) = true := by
    rw [fitsIndex_both h1 h2]
    exact Bool.false_ne_true
  have c2 : ¬ its.toArray.size * k.toNat > (2 ^ 63 - 1) / 8 := by
    have big : (sizeLine : Nat) ≤ (2 ^ 63 - 1) / 8 := by decide
    omega
  have c3 : ¬ Builtin.List.listTooLong (its.toArray.size * k.toNat) = true := by
    rw [notLongL cap]
    exact Bool.false_ne_true
  have joined : List.foldl (fun x1 x2 => x1 ++ x2) #[] (List.replicate (if its.toArray.isEmpty = true then 0 else k.toNat) its.toArray) = (List.replicate k.toNat its).flatten.toArray := by
    have all : ∀ j : Nat, List.foldl (fun x1 x2 => x1 ++ x2) #[] (List.replicate j its.toArray) = (List.replicate j its).flatten.toArray := fun j => by
      have z := foldl_rep its j []
      rw [List.nil_append] at z
      exact z
    rw [all]
    cases its with
    | nil => simp
    | cons a b => rw [if_neg (by simp)]
  have len : (List.replicate k.toNat xs).flatten.length ≤ sizeLine := by
    rw [PyProof.Rows.lm_len_rep_flat, Nat.mul_comm]
    exact hz
  refine wpAny_binaryOp_repeat_ref (T := "list") (U := "int") (by decide) ⟨_, g1, rfl⟩ (fun s' => typeIs_int s' k t) noFill_list_mul PySem.F.fills_int_mul PySem.F.slot_int_rmul repeat_list PySem.F.slot_int_index.lookup ?_
  refine call_meets PySem.F.slot_int_rmul (typeIs_int s k t) PySem.F.entry_int_rmul (PySem.F.args_int_rmul_2 _ _) (lm_int_rmul_list_any k t l its.toArray n d1 s1) ⟨g1, rfl, ⟨_, g1, rfl⟩, ?_⟩
  refine call_meets PySem.F.slot_list_mul ⟨_, g1, rfl⟩ PySem.F.entry_list_mul (PySem.F.args_list_mul_2 _ _) (lm_list_mul_any l its.toArray n d1 s1 k t c1 c2 c3) ⟨g1, ?_⟩
  rw [joined]
  exact ⟨.ref s.heap.objs.size, _, I.lnew (t' := s.toks) (r.rep k.toNat) len, rfl, q _ I.fresh⟩
/-- is, with None or a bool at the right -/
def plainV : V → Bool
  | .non => true
  | .bl _ => true
  | .int _ => true
  | .str _ => true
  | .ref _ => true
  | _ => false
def eqConst : V → V → Bool
  | .non, .non => true
  | .bl a, .bl b => a == b
  | _, _ => false
def constV : V → Bool
  | .non => true
  | .bl _ => true
  | _ => false
def rIsC (neg : Bool) : R2 := fun x y H Q => plainV x = true ∧ constV y = true ∧ Q (.bl (if neg then !eqConst x y else eqConst x y)) H
theorem is_plain {x y : V} {v u : Value} (rx : RelV x v) (ry : RelV y u) (p : plainV x = true) (c : constV y = true) : plainIs v u = true ∧ (v == u) = eqConst x y := by
  cases y with
  | non =>
    cases (show u = Value.none from ry)
    cases x with
    | non => cases (show v = Value.none from rx); exact ⟨rfl, rfl⟩
    | bl a => cases (show v = Value.bool a from rx); exact ⟨rfl, rfl⟩
    | int i => obtain ⟨t, rfl⟩ := rx; exact ⟨rfl, rfl⟩
    | str i => obtain ⟨t, rfl⟩ := rx; exact ⟨rfl, rfl⟩
    | ref a => cases (show v = Value.ref a from rx); exact ⟨rfl, rfl⟩
    | _ => cases p
  | bl b =>
    cases (show u = Value.bool b from ry)
    cases x with
    | non => cases (show v = Value.none from rx); exact ⟨rfl, rfl⟩
    | bl a =>
      cases (show v = Value.bool a from rx)
      refine ⟨rfl, ?_⟩
      show (Value.bool a == Value.bool b) = (a == b)
      cases a <;> cases b <;> rfl
    | int i => obtain ⟨t, rfl⟩ := rx; exact ⟨rfl, rfl⟩
    | str i => obtain ⟨t, rfl⟩ := rx; exact ⟨rfl, rfl⟩
    | ref a => cases (show v = Value.ref a from rx); exact ⟨rfl, rfl⟩
    | _ => cases p
  | _ => cases c
theorem op_isC : OpR X (compareOp .Is) (rIsC false) := by
  intro pins s σ H x y v u Q I rx ry h
  obtain ⟨p, c, q⟩ := h
  obtain ⟨h1, h2⟩ := is_plain rx ry p c
  exact wpAny_is_plain h1 ⟨.bl (eqConst x y), H, I, by rw [h2]; rfl, q⟩
theorem op_isnotC : OpR X (compareOp .IsNot) (rIsC true) := by
  intro pins s σ H x y v u Q I rx ry h
  obtain ⟨p, c, q⟩ := h
  obtain ⟨h1, h2⟩ := is_plain rx ry p c
  exact wpAny_isNot_plain h1 ⟨.bl (!eqConst x y), H, I, by rw [h2]; rfl, q⟩
/-- repr of a list or a tuple -/
def rRepr (K : PySem.W.Frag) : List V → Hp → VK → Prop := fun xs H Q => (∃ a, xs = [.ref a] ∧ H a = some (.dK []) ∧ Q (.str (PyData.shown (.dict []))) H) ∨ ∃ (a : V) (d : PyData), xs = [a] ∧ Dp K H a d ∧ d.hasDict = false ∧ d.showable = true ∧ d.depth ≤ 40 ∧ d.shown.length ≤ sizeLine ∧ Q (.str d.shown) H
theorem call_repr (gd : X.A.guards = some []) (hu : X.A.units + 64 < cLine) : CallR X (.builtin "repr") (rRepr X.K) := by
  intro pins s σ H xs us Q I r h
  rcases h with ⟨a, rfl, ea, q⟩ | ⟨a, d, rfl, hd, h1, h2, h3, h4, q⟩
  · rw [Vals.ref1 r]
    obtain ⟨_, hm, vs, kv, o, es, ep, g1, g2, g3, _, g5, _⟩ := dk_of I.hok ea
    have ev : vs = [] := by
      cases kv
      rfl
    subst ev
    have ee : es.toList = [] := List.length_eq_zero_iff.mp (Pairs.length g5)
    have rd : Reads s.heap (.ref a) (.dict []) (a :: [] ++ []) := Reads.dict g1 g2.1 g3 (by rw [ee]; exact .nil) (by rw [ee]; exact .nil)
    refine repr_of_reads' rd (by simp [PyData.showable, PyData.showableKv]) (fun _ z => ?_) gd (by simp [PyData.depth, PyData.depthKv]; omega) (fun _ _ e => e) (fun h' u tk hk => ?_) ?_
    · simp at z
      subst z
      simp at hm
    · exact ⟨.str (PyData.shown _), H, I.kept (t' := tk) hk, ⟨_, rfl⟩, q⟩
    · show (PyData.shown (.dict [])).length ≤ sizeLine
      rw [sizeLine_eq]
      decide +kernel
  cases r with
  | cons r rr =>
    cases rr
    obtain ⟨as, rd⟩ := Dp.reads I d _ _ hd r
    cases hd with
    | non =>
      cases (show _ = Value.none from r)
      exact P.repr_of_none ⟨.str (PyData.shown .none), H, I.tok _, ⟨_, rfl⟩, q⟩
    | bl b =>
      cases (show _ = Value.bool b from r)
      exact P.repr_of_bool ⟨.str (PyData.shown (.bool b)), H, I.tok _, ⟨_, rfl⟩, q⟩
    | int i =>
      obtain ⟨t, rfl⟩ := r
      exact P.repr_of_int (of_decide_eq_true (by simpa only [PyData.showable] using h2)) ⟨.str (PyData.shown (.int i)), H, I.tok _, ⟨_, rfl⟩, q⟩
    | str x =>
      obtain ⟨t, rfl⟩ := r
      exact P.repr_of_str ⟨.str (PyData.shown (.str x)), H, I.tok _, ⟨_, rfl⟩, q⟩ h4
    | lst _ _ =>
      cases (show _ = Value.ref _ from r)
      refine repr_of_reads' rd h2 (PyData.noDict_hsm h1) gd (by omega) (fun _ _ e => e) (fun h' u tk hk => ?_) h4
      exact ⟨.str (PyData.shown _), H, I.kept (t' := tk) hk, ⟨_, rfl⟩, q⟩
    | tup _ _ =>
      cases (show _ = Value.ref _ from r)
      refine repr_of_reads' rd h2 (PyData.noDict_hsm h1) gd (by omega) (fun _ _ e => e) (fun h' u tk hk => ?_) h4
      exact ⟨.str (PyData.shown _), H, I.kept (t' := tk) hk, ⟨_, rfl⟩, q⟩
end

/-! ### over data -/
section
variable {K : PySem.W.Frag} {F : Addr → Prop} {H : Hp} {v : V}
theorem new_tmp {p : Addr} {vs : List V} {xs : List PyData} (hp : H p = none) (r : RpAll K F H vs xs) : Same H (upd H p (.lst vs)) ∧ NewOk K F H (upd H p (.lst vs)) (.ref p) (.tmp xs) :=
  ⟨same_upd hp, p, vs, rfl, hp, upd_same, r.grow (same_upd hp)⟩
def rAddD (K : PySem.W.Frag) : R2 := fun x y H Q => (∃ i j, x = .int i ∧ y = .int j ∧ Q (.int (i + j)) H) ∨ (∃ i j, x = .str i ∧ y = .str j ∧ i.length + j.length ≤ sizeLine ∧ Q (.str (i ++ j)) H) ∨ rCatS K x y H Q
theorem op_addD {X : Cx} : OpR X (binaryOp .Add) (rAddD X.K) := op_add.or (op_add_str.or op_catS)
theorem prim_add : Prim2 K (rAddD K) opAdd := by
  intro F H v w x y z Q a b e q
  cases x <;> cases y <;> try (cases e; done)
  · cases e
    exact .inl ⟨_, _, a.int, b.int, q _ H Same.rfl' (.int _)⟩
  · rename_i i j
    have e : (if i.length + j.length ≤ sizeLine then some (Rv.d (.str (i ++ j))) else none) = some z := e
    by_cases c : i.length + j.length ≤ sizeLine
    · rw [if_pos c] at e
      cases e
      exact .inr (.inl ⟨_, _, a.str, b.str, c, q _ H Same.rfl' (.str _)⟩)
    · rw [if_neg c] at e
      cases e
  · rename_i i j
    have e : (if i.length + j.length ≤ sizeLine then some (Rv.tmp (i ++ j)) else none) = some z := e
    by_cases c : i.length + j.length ≤ sizeLine
    · rw [if_pos c] at e
      cases e
      obtain ⟨p, vs, rfl, h1, r1⟩ := a.list
      obtain ⟨p2, vs2, rfl, h2, r2⟩ := b.list
      refine .inr (.inr ⟨p, p2, vs, vs2, rfl, rfl, h1, h2, by rw [r1.length, r2.length]; exact c, fun p hp => ?_⟩)
      obtain ⟨s, n⟩ := new_tmp hp (r1.append r2)
      exact q _ _ s n
    · rw [if_neg c] at e
      cases e
def rMulD (K : PySem.W.Frag) : R2 := fun x y H Q => (∃ i j, x = .int i ∧ y = .int j ∧ CMulW i j ∧ Q (.int (i * j)) H) ∨ rRepS K x y H Q
theorem op_mulD {X : Cx} : OpR X (binaryOp .Mult) (rMulD X.K) := op_mulW.or op_repS
theorem prim_mul : Prim2 K (rMulD K) opMul := by
  intro F H v w x y z Q a b e q
  cases x <;> cases y <;> try (cases e; done)
  · rename_i i j
    have e : (if i.natAbs.log2 + j.natAbs.log2 < 1000000 then some (Rv.d (.int (i * j))) else none) = some z := e
    by_cases c : i.natAbs.log2 + j.natAbs.log2 < 1000000
    · rw [if_pos c] at e
      cases e
      exact .inl ⟨_, _, a.int, b.int, c, q _ H Same.rfl' (.int _)⟩
    · rw [if_neg c] at e
      cases e
  · rename_i xs k
    have e : (if -(2 ^ 63) ≤ k ∧ k < 2 ^ 63 ∧ xs.length * k.toNat ≤ sizeLine then some (Rv.tmp (List.replicate k.toNat xs).flatten) else none) = some z := e
    by_cases c : -(2 ^ 63) ≤ k ∧ k < 2 ^ 63 ∧ xs.length * k.toNat ≤ sizeLine
    · rw [if_pos c] at e
      cases e
      obtain ⟨p, vs, rfl, h1, r1⟩ := a.list
      refine .inr ⟨p, k, vs, rfl, b.int, h1, c.1, c.2.1, by rw [r1.length]; exact c.2.2, fun p hp => ?_⟩
      obtain ⟨s, n⟩ := new_tmp hp (r1.rep k.toNat)
      exact q _ _ s n
    · rw [if_neg c] at e
      cases e
theorem Pk.plain {x : D} (h : Pk K F H v x) (y : D) (b : Bool) (e : isV x y = some b) {w : V} (h2 : Pk K F H w y) : plainV v = true ∧ constV w = true ∧ eqConst v w = b := by
  have pl : plainV v = true := by
    rcases h with k | ⟨p, vs, xs, rfl, _⟩
    · cases k <;> rfl
    · rfl
  cases y with
  | none =>
    have := h2.non
    subst this
    refine ⟨pl, rfl, ?_⟩
    cases x with
    | none => have := h.non; subst this; cases e; rfl
    | bool c => have := h.bl; subst this; cases e; rfl
    | int c => have := h.int; subst this; cases e; rfl
    | str c => have := h.str; subst this; cases e; rfl
    | list c => obtain ⟨p, vs, rfl, _⟩ := h.list; cases e; rfl
    | tuple c => obtain ⟨p, vs, rfl, _⟩ := h.tup; cases e; rfl
    | dict c =>
      rcases h with k | ⟨_, _, _, _, k, _⟩
      · cases k; cases e; rfl
      · cases k
  | bool d =>
    have := h2.bl
    subst this
    refine ⟨pl, rfl, ?_⟩
    cases x with
    | none => have := h.non; subst this; cases e; rfl
    | bool c => have := h.bl; subst this; cases e; rfl
    | int c => have := h.int; subst this; cases e; rfl
    | str c => have := h.str; subst this; cases e; rfl
    | list c => obtain ⟨p, vs, rfl, _⟩ := h.list; cases e; rfl
    | tuple c => obtain ⟨p, vs, rfl, _⟩ := h.tup; cases e; rfl
    | dict c =>
      rcases h with k | ⟨_, _, _, _, k, _⟩
      · cases k; cases e; rfl
      · cases k
  | _ => cases x <;> cases e
theorem prim_is : Prim2 K (rIsC false) opIs := by
  intro F H v w x y z Q a b e q
  obtain ⟨c, e1, e2⟩ := bs e
  cases e2
  obtain ⟨h1, h2, h3⟩ := a.plain y c e1 b
  refine ⟨h1, h2, ?_⟩
  subst h3
  exact q _ H Same.rfl' (.bl _)
theorem prim_isnot : Prim2 K (rIsC true) opIsNot := by
  intro F H v w x y z Q a b e q
  obtain ⟨c, e1, e2⟩ := bs e
  cases e2
  obtain ⟨h1, h2, h3⟩ := a.plain y c e1 b
  refine ⟨h1, h2, ?_⟩
  subst h3
  exact q _ H Same.rfl' (.bl _)
theorem prim_ix : Prim2 K (rIx K) opIx := by
  intro F H v w x y z Q a b e q
  cases x <;> cases y <;> try (cases e; done)
  · rename_i s i
    have e : (if s.length ≤ sizeLine then (ixAt s.cps.toList i).bind fun n => (s.cps.toList[n]?).bind fun c => some (Rv.d (.str ⟨#[c]⟩)) else none) = some z := e
    by_cases c : s.length ≤ sizeLine
    · rw [if_pos c] at e
      obtain ⟨n, e1, e⟩ := bs e
      obtain ⟨ch, e2, e⟩ := bs e
      cases e
      refine .inr (.inr ⟨s, i, ch, a.str, b.int, c, ?_, q _ H Same.rfl' (.str _)⟩)
      show (ixN s.cps.toList.length i).bind (fun j => s.cps.toList[j]?) = some ch
      rw [← ixAt_eq, e1]
      exact e2
    · rw [if_neg c] at e
      cases e
  · rename_i xs i
    obtain ⟨n, e1, e⟩ := bs e
    obtain ⟨y, e2, e⟩ := bs e
    cases e
    obtain ⟨p, vs, rfl, h1, r1⟩ := a.list
    obtain ⟨vy, g1, g2⟩ := r1.get e2
    refine .inl ⟨p, vs, i, vy, rfl, b.int, h1, ?_, q _ H Same.rfl' g2⟩
    show (ixN vs.length i).bind (fun j => vs[j]?) = some vy
    rw [r1.length, ← ixAt_eq, e1]
    exact g1
  · rename_i xs i
    obtain ⟨n, e1, e⟩ := bs e
    obtain ⟨y, e2, e⟩ := bs e
    cases e
    obtain ⟨p, vs, rfl, h1, r1⟩ := a.tup
    obtain ⟨vy, g1, g2⟩ := r1.get e2
    refine .inr (.inl ⟨p, vs, i, vy, rfl, b.int, h1, ?_, q _ H Same.rfl' g2⟩)
    show (ixN vs.length i).bind (fun j => vs[j]?) = some vy
    rw [r1.length, ← ixAt_eq, e1]
    exact g1
theorem cut_eq (n d : Nat) (o : Option Int) : cutAt n d o = HT.sIx n d o := rfl
theorem prim_slice : PrimS K (rSlL K) opSlice := by
  intro F H v x lo hi z Q a e q
  cases x <;> try (cases e; done)
  rename_i ys
  cases e
  obtain ⟨p, vs, rfl, h1, r1⟩ := a.list
  refine ⟨p, vs, rfl, h1, fun p hp => ?_⟩
  have r2 : RpAll K F H (cutV vs lo hi) (cutD ys lo hi) := by
    unfold cutV cutD
    rw [r1.length]
    exact (r1.drop _).take _
  obtain ⟨s, n⟩ := new_tmp hp r2
  exact q _ _ s n
theorem snd_rev {t : TE} {f : DE} (a : SndE K t f) : SndE K (tRevL K t) (dOp1 opRev f) := by
  refine snd_op1 (r := fun x H1 Q => ∃ a xs, x = .ref a ∧ SqL K H1 a xs ∧ ∀ p, H1 p = none → Q (.ref p) (upd H1 p (.lst xs.reverse))) ?_ a
  intro F H v x z Q a e q
  cases x <;> try (cases e; done)
  cases e
  obtain ⟨p, vs, rfl, h1, r1⟩ := a.list
  refine ⟨p, vs, rfl, h1, fun p hp => ?_⟩
  obtain ⟨s, n⟩ := new_tmp hp r1.reverse
  exact q _ _ s n

/-! ### built-in calls -/
theorem PkAll.one {vs : List V} {x : D} (h : PkAll K F H vs [x]) : ∃ v, vs = [v] ∧ Pk K F H v x := by
  cases h with
  | cons a t => cases t; exact ⟨_, rfl, a⟩
def rLenD (K : PySem.W.Frag) : List V → Hp → VK → Prop := fun xs H Q => (∃ p ys, xs = [.ref p] ∧ (SqL K H p ys ∨ SqT K H p ys) ∧ Q (.int ys.length) H) ∨ ∃ z, xs = [.str z] ∧ z.length ≤ sizeLine ∧ Q (.int z.length) H
theorem call_lenD' {X : Cx} : CallR X (.builtin "len") (rLenD X.K) := call_len_seq.or call_len_str
theorem prim_len : PrimN K (rLenD K) bLen := by
  intro F H vs xs z Q a e q
  match xs, a, e with
  | [.list ys], a, e =>
    cases e
    obtain ⟨v, rfl, a'⟩ := a.one
    obtain ⟨p, vs, rfl, h1, r1⟩ := a'.list
    refine .inl ⟨p, vs, rfl, .inl h1, ?_⟩
    rw [r1.length]
    exact q _ H Same.rfl' (.int _)
  | [.tuple ys], a, e =>
    cases e
    obtain ⟨v, rfl, a'⟩ := a.one
    obtain ⟨p, vs, rfl, h1, r1⟩ := a'.tup
    refine .inl ⟨p, vs, rfl, .inr h1, ?_⟩
    rw [r1.length]
    exact q _ H Same.rfl' (.int _)
  | [.str s], a, e =>
    have e : (if s.length ≤ sizeLine then some (Rv.d (.int s.length)) else none) = some z := e
    obtain ⟨v, rfl, a'⟩ := a.one
    by_cases c : s.length ≤ sizeLine
    · rw [if_pos c] at e
      cases e
      have := a'.str
      subst this
      exact .inr ⟨s, rfl, c, q _ H Same.rfl' (.int _)⟩
    · rw [if_neg c] at e
      cases e
def rIntD : List V → Hp → VK → Prop := fun xs H Q => (∃ i, xs = [.int i] ∧ Q (.int i) H) ∨ ∃ k, xs = [.bl k] ∧ Q (.int (if k then 1 else 0)) H
theorem prim_int : PrimN K rIntD bInt := by
  intro F H vs xs z Q a e q
  match xs, a, e with
  | [.int i], a, e =>
    cases e
    obtain ⟨v, rfl, a'⟩ := a.one
    have := a'.int
    subst this
    exact .inl ⟨i, rfl, q _ H Same.rfl' (.int _)⟩
  | [.bool b], a, e =>
    cases e
    obtain ⟨v, rfl, a'⟩ := a.one
    have := a'.bl
    subst this
    exact .inr ⟨b, rfl, q _ H Same.rfl' (.int _)⟩
def rStrD : List V → Hp → VK → Prop := fun xs H Q => ∃ i : Int, xs = [.int i] ∧ i.natAbs.log2 < 1920 ∧ Q (.str (toString i)) H
theorem prim_str : PrimN K rStrD bStr := by
  intro F H vs xs z Q a e q
  match xs, a, e with
  | [.int i], a, e =>
    have e : (if i.natAbs.log2 < 1920 then some (Rv.d (.str (Str.ofString (toString i)))) else none) = some z := e
    obtain ⟨v, rfl, a'⟩ := a.one
    by_cases c : i.natAbs.log2 < 1920
    · rw [if_pos c] at e
      cases e
      have := a'.int
      subst this
      exact ⟨i, rfl, c, q _ H Same.rfl' (.str _)⟩
    · rw [if_neg c] at e
      cases e
theorem prim_repr : PrimN K (rRepr K) bRepr := by
  intro F H vs xs z Q a e q
  match xs, a, e with
  | [x], a, e =>
    have e : (if x.hasDict = false ∧ x.showable = true ∧ x.depth ≤ 40 ∧ x.shown.length ≤ sizeLine then some (Rv.d (.str x.shown)) else dictRepr x) = some z := e
    obtain ⟨v, rfl, a'⟩ := a.one
    by_cases c : x.hasDict = false ∧ x.showable = true ∧ x.depth ≤ 40 ∧ x.shown.length ≤ sizeLine
    · rw [if_pos c] at e
      cases e
      exact .inr ⟨v, x, rfl, a'.dp c.1, c.1, c.2.1, c.2.2.1, c.2.2.2, q _ H Same.rfl' (.str _)⟩
    · rw [if_neg c] at e
      match x, a', e with
      | .dict [], a', e =>
        cases e
        rcases a' with k | ⟨_, _, _, _, k, _⟩
        · cases k with
          | dic h => exact .inl ⟨_, rfl, h, q _ H Same.rfl' (.str _)⟩
        · cases k
theorem bools_ok : ∀ {vs : List V} {xs : List PyData} {bs' : List Bool}, RpAll K F H vs xs → boolsOf xs = some bs' → vs = bs'.map V.bl
  | _, [], _, .nil, e => by cases e; rfl
  | _, .bool b :: xs, _, .cons a t, e => by
    obtain ⟨cs, e1, e2⟩ := bs e
    cases e2
    cases a
    rw [bools_ok t e1]
    rfl
theorem ints_ok : ∀ {vs : List V} {xs : List PyData} {is : List Int}, RpAll K F H vs xs → intsOf xs = some is → vs = is.map V.int
  | _, [], _, .nil, e => by cases e; rfl
  | _, .int b :: xs, _, .cons a t, e => by
    obtain ⟨cs, e1, e2⟩ := bs e
    cases e2
    cases a
    rw [ints_ok t e1]
    rfl
theorem prim_all : PrimN K (rAll K) bAll := by
  intro F H vs xs z Q a e q
  match xs, a, e with
  | [.list ys], a, e =>
    obtain ⟨cs, e1, e2⟩ := bs e
    cases e2
    obtain ⟨v, rfl, a'⟩ := a.one
    obtain ⟨p, ws, rfl, h1, r1⟩ := a'.list
    have := bools_ok r1 e1
    subst this
    exact ⟨p, cs, rfl, h1, q _ H Same.rfl' (.bl _)⟩
theorem prim_any : PrimN K (rAny K) bAny := by
  intro F H vs xs z Q a e q
  match xs, a, e with
  | [.list ys], a, e =>
    obtain ⟨cs, e1, e2⟩ := bs e
    cases e2
    obtain ⟨v, rfl, a'⟩ := a.one
    obtain ⟨p, ws, rfl, h1, r1⟩ := a'.list
    have := bools_ok r1 e1
    subst this
    exact ⟨p, cs, rfl, h1, q _ H Same.rfl' (.bl _)⟩
theorem prim_sum : PrimN K (rSum K) bSum := by
  intro F H vs xs z Q a e q
  match xs, a, e with
  | [.list ys], a, e =>
    obtain ⟨cs, e1, e2⟩ := bs e
    cases e2
    obtain ⟨v, rfl, a'⟩ := a.one
    obtain ⟨p, ws, rfl, h1, r1⟩ := a'.list
    have := ints_ok r1 e1
    subst this
    exact ⟨p, cs, rfl, h1, q _ H Same.rfl' (.int _)⟩
def rListD (K : PySem.W.Frag) : List V → Hp → VK → Prop := fun xs H Q => ∃ p ys, xs = [.ref p] ∧ (SqL K H p ys ∨ SqT K H p ys) ∧ ∀ l, H l = none → Q (.ref l) (upd H l (.lst ys))
theorem prim_list : PrimN K (rListD K) bList := by
  intro F H vs xs z Q a e q
  match xs, a, e with
  | [.list ys], a, e =>
    cases e
    obtain ⟨v, rfl, a'⟩ := a.one
    obtain ⟨p, ws, rfl, h1, r1⟩ := a'.list
    refine ⟨p, ws, rfl, .inl h1, fun p hp => ?_⟩
    obtain ⟨s, n⟩ := new_tmp hp r1
    exact q _ _ s n
  | [.tuple ys], a, e =>
    cases e
    obtain ⟨v, rfl, a'⟩ := a.one
    obtain ⟨p, ws, rfl, h1, r1⟩ := a'.tup
    refine ⟨p, ws, rfl, .inr h1, fun p hp => ?_⟩
    obtain ⟨s, n⟩ := new_tmp hp r1
    exact q _ _ s n
/-! isinstance -/
theorem Pk.ty {x : D} (h : Pk K F H v x) : TyX K H v (.type (tyName x)) := by
  have sq : ∀ {a xs}, SqL K H a xs → TyX K H (.ref a) (.type "list") := fun {a xs} s => by
    rcases s with (s | ⟨o, s⟩) | ⟨o, its, n, s, c, _⟩
    · exact .base (.lst s)
    · exact .base (.frz s)
    · exact .kList s c
  have st : ∀ {a xs}, SqT K H a xs → TyX K H (.ref a) (.type "tuple") := fun {a xs} s => by
    rcases s with (s | ⟨o, s⟩) | ⟨o, its, n, s, c, _⟩
    · exact .base (.tup s)
    · exact .fTuple s
    · exact .kTuple s c
  cases x with
  | none => have := h.non; subst this; exact .base .non
  | bool c => have := h.bl; subst this; exact .base (.bl c)
  | int c => have := h.int; subst this; exact .base (.int c)
  | str c => have := h.str; subst this; exact .base (.str c)
  | list c => obtain ⟨p, vs, rfl, h1, _⟩ := h.list; exact sq h1
  | tuple c => obtain ⟨p, vs, rfl, h1, _⟩ := h.tup; exact st h1
  | dict c =>
    rcases h with k | ⟨_, _, _, _, k, _⟩
    · cases k with
      | dic h => exact .base (.dK h)
    · cases k
end
end DL
end

section
set_option Elab.async false
set_option linter.all false
set_option maxRecDepth 100000
set_option maxHeartbeats 1000000
/-! DLrul: rules: a piece of syntax, its reading, its plain function, at once. -/
namespace DL
open PySem PySem.Spec PyProof.Rows L2
/-! ### isinstance -/
def tyNames : List String := ["NoneType", "bool", "int", "str", "list", "tuple", "dict"]
def TyOkc (T : String) : Prop := ∀ n ∈ tyNames, kitB n T = some (n == T || (T == "int" && n == "bool"))
theorem tyName_mem (x : D) : tyName x ∈ tyNames := by
  cases x <;> simp [tyName, tyNames]
section
variable {K : PySem.W.Frag}
theorem kit_at {T : String} (hT : TyOkc T) (x : D) : PySem.W.kitOne K (.type (tyName x)) (.type T) = some (isTy x T) := kit_ty (hT _ (tyName_mem x))
theorem snd_isi {T : String} {t : TE} {f : DE} (hT : TyOkc T) (a : SndE K t f) : SndE K (tCB (rIsi K) (tCons t (tCons (tC (.ty T)) tNil))) (dOp1 (bIsi T) f) := by
  intro H0 M st σ F H z st' Q S e q
  obtain ⟨p, e1, e⟩ := bs e
  obtain ⟨x, e3, e⟩ := bs e
  obtain ⟨u, e5, e⟩ := bs e
  cases e
  refine a H0 M st σ F H p.1 p.2 _ S e1 fun v F1 H1 S1 E1 f1 r1 => ?_
  have pk := look_ok S1 r1.weak e3
  have ez : z = .d (.bool (isTy x T)) := by
    exact (Option.some.inj e5).symm
  subst ez
  exact ⟨v, .ty T, .type (tyName x), .type T, isTy x T, rfl, .ty T, pk.ty, kit_at hT x, q _ F1 H1 S1 E1 f1 (.bl _)⟩
theorem snd_isi2 {T U : String} {t : TE} {f : DE} (hT : TyOkc T) (hU : TyOkc U) (a : SndE K t f) : SndE K (tCB (rIsiT K) (tCons t (tCons (tTup (tCons (tC (.ty T)) (tCons (tC (.ty U)) tNil))) tNil))) (dOp1 (bIsi2 T U) f) := by
  intro H0 M st σ F H z st' Q S e q
  obtain ⟨p, e1, e⟩ := bs e
  obtain ⟨x, e3, e⟩ := bs e
  obtain ⟨u, e5, e⟩ := bs e
  cases e
  refine a H0 M st σ F H p.1 p.2 _ S e1 fun v F1 H1 S1 E1 f1 r1 => ?_
  have ez : z = .d (.bool (isTy x T || isTy x U)) := by
    exact (Option.some.inj e5).symm
  subst ez
  refine ⟨by show 2 ≤ sizeLine; decide, fun tp hp => ?_⟩
  have S2 := S1.grow (same_upd (o := .tup [.ty T, .ty U]) hp)
  have E2 := E1.trans (Ext.grow (st := p.2) (σ := σ) (F := F1) (same_upd (o := .tup [.ty T, .ty U]) hp))
  have pk : Pk K F1 (upd H1 tp (.tup [.ty T, .ty U])) v x := look_ok S2 (r1.weak.ext S1 (Ext.grow (same_upd hp)) trivial) e3
  refine ⟨v, tp, [.ty T, .ty U], .type (tyName x), [.type T, .type U], isTy x T || isTy x U, rfl, upd_same, .cons (.ty T) (.cons (.ty U) .nil), pk.ty, ?_, q _ F1 _ S2 E2 trivial (.bl _)⟩
  refine kitAny_cons (kit_at hT x) (fun h => ?_) (fun h => by rw [h]; rfl)
  refine kitAny_cons (kit_at hU x) (fun h2 => ?_) (fun h2 => by rw [h, h2]; rfl)
  rw [h, h2]
  exact kitAny_nil
end
theorem tyok_int : TyOkc "int" := by unfold TyOkc tyNames; decide +kernel
theorem tyok_bool : TyOkc "bool" := by unfold TyOkc tyNames; decide +kernel
theorem tyok_str : TyOkc "str" := by unfold TyOkc tyNames; decide +kernel
theorem tyok_list : TyOkc "list" := by unfold TyOkc tyNames; decide +kernel
theorem tyok_tuple : TyOkc "tuple" := by unfold TyOkc tyNames; decide +kernel

/-! ### operators in place -/
section
variable {K : PySem.W.Frag} {X : Cx}
theorem prim_addI : Prim2 K (ipI fun i j => i + j) opAddI := by
  intro F H v w x y z Q a b e q
  cases x <;> cases y <;> try (cases e; done)
  cases e
  exact ⟨_, _, a.int, b.int, q _ H Same.rfl' (.int _)⟩
theorem pget_list : PGet X (rIxL X.K) := by
  intro pins s σ H x y v u Q I rx ry h
  obtain ⟨p, xs, i, z, rfl, rfl, hq, he, q⟩ := h
  cases rx
  obtain ⟨t, rfl⟩ := ry
  obtain ⟨its, r, pl, hz⟩ := I.list hq
  obtain ⟨j, h1, h2, h3, h4, h5⟩ := atI_get he
  obtain ⟨w, ew, rw'⟩ := r.get h2
  have hl := r.length
  have hn := line63
  have fin : EP X pins σ Q w s := ⟨z, H, I, rw', q⟩
  by_cases h0 : 0 ≤ i
  · have hj : i.toNat = j := by
      rw [seqIndex_of h0 h5] at h1
      exact Option.some.inj h1
    exact wpAny_getItem_list pl.isList h0 (by omega) (by rw [hj]; simpa using ew) fin
  · have hj : (i + (its.toArray.size : Int)).toNat = j := by
      rw [seqIndex_neg (by omega) h4] at h1
      rw [List.size_toArray, ← hl]
      exact Option.some.inj h1
    exact wpAny_getItem_list_neg pl.isList (by omega) (by rw [List.size_toArray] <;> omega) (by omega) (by rw [hj]; simpa using ew) fin
end

/-! ### the judgements -/
structure SE (K : PySem.W.Frag) (X : Cx) (e : Expr) (t : TE) (f : DE) : Prop where
  pe : PE X e t
  sn : SndE K t f
structure ST (K : PySem.W.Frag) (X : Cx) (e : Expr) (t : TT) (f : DT) : Prop where
  pe : PT X e t
  sn : SndT K t f
structure SW (K : PySem.W.Frag) (X : Cx) (e : Expr) (t : TT) (f : DT) : Prop where
  pe : PW X e t
  sn : SndT K t f
structure SA (K : PySem.W.Frag) (X : Cx) (es : List Expr) (t : TA) (f : DA) : Prop where
  pe : PA X es t
  sn : SndA K t f
structure SK (K : PySem.W.Frag) (X : Cx) (ks : List Keyword) (t : TA) (f : DA) : Prop where
  pe : PK X ks t
  sn : SndA K t f
structure SO (K : PySem.W.Frag) (X : Cx) (e : Option Expr) (t : TO) (f : DO) : Prop where
  pe : PO X e t
  sn : SndO K t f
structure SS (K : PySem.W.Frag) (X : Cx) (s : Stmt) (t : TS) (f : DS) : Prop where
  pe : PS X s t
  sn : SndS K t f
structure SSs (K : PySem.W.Frag) (X : Cx) (s : List Stmt) (t : TS) (f : DS) : Prop where
  pe : PSs X s t
  sn : SndS K t f
structure SG (K : PySem.W.Frag) (X : Cx) (e : Expr) (is : List Nat) (t : TG) (f : DG) : Prop where
  pe : PG X e t
  sn : SndG K is t f
structure SGs (K : PySem.W.Frag) (X : Cx) (es : List Expr) (is : List Nat) (t : TGs) (f : DGs) : Prop where
  pe : PGs X es t
  sn : SndGs K is t f
structure SI (K : PySem.W.Frag) (X : Cx) (tg it : Expr) (w : TI) (f : DI) : Prop where
  pe : PI X tg it w
  sn : SndI K w f
section
variable {K : PySem.W.Frag} {X : Cx} {a b c e : Expr} {es : List Expr} {ta tb tc te : TE} {f g h : DE} {pos p : Pos} {x : Str}
theorem se_var (i : Nat) (hN : X.N[i]? = some x := by rfl) (hv : Vis X.env.scope x := by first | exact Or.inl rfl | exact Or.inr (Or.inl rfl) | exact Or.inr (Or.inr rfl)) (hd : (x == ("__debug__" : Str)) = false := by decide)
    (hcd : (x == ("__classdict__" : Str)) = false := by decide) : SE K X (.Name x pos) (tVar i) (dVar i) := ⟨pe_var hN hv hd hcd, snd_var⟩
theorem se_int {i j} : SE K X (.Constant (.int i) j pos) (tC (.int i)) (dC (.int i)) := ⟨pe_int, snd_c fun _ _ => .int _⟩
theorem se_bl {i j} : SE K X (.Constant (.bool i) j pos) (tC (.bl i)) (dC (.bool i)) := ⟨pe_bl, snd_c fun _ _ => .bl _⟩
theorem se_non {j} : SE K X (.Constant .none j pos) (tC .non) (dC .none) := ⟨pe_non, snd_c fun _ _ => .non⟩
theorem se_str {s j} : SE K X (.Constant (.str s) j pos) (tC (.str s)) (dC (.str s)) := ⟨pe_str, snd_c fun _ _ => .str _⟩
/-- a module's constant -/
theorem se_glob {v : V} {u : Value} {d : PyData} (hg : Gl X x) (hm : X.mg x = some u) (r : RelV v u) (hd : ∀ (F : Addr → Prop) (H : Hp), Rp K F H v d) (h1 : (x == ("__debug__" : Str)) = false := by decide) : SE K X (.Name x pos) (tC v) (dC d) := ⟨pe_glob hg hm r h1, snd_c hd⟩
theorem se_op {op : Operator} {r : R2} {o : D → D → Option Rv} (hp : Prim2 K r o) (ho : OpR X (binaryOp op) r) (ha : SE K X a ta f) (hb : SE K X b tb g) : SE K X (.BinOp a op b pos) (tOp r ta tb) (dOp2 o f g) := ⟨pe_op ho ha.pe hb.pe, snd_op2 hp ha.sn hb.sn⟩
theorem se_add (ha : SE K X a ta f) (hb : SE K X b tb g) (hK : X.K = K := by rfl) : SE K X (.BinOp a .Add b pos) (tOp (rAddD K) ta tb) (dOp2 opAdd f g) := by
  subst hK
  exact se_op prim_add op_addD ha hb
theorem se_sub (ha : SE K X a ta f) (hb : SE K X b tb g) : SE K X (.BinOp a .Sub b pos) (tOp (rI0 fun i j => .int (i - j)) ta tb) (dOp2 opSub f g) := se_op prim_sub op_sub ha hb
theorem se_mul (ha : SE K X a ta f) (hb : SE K X b tb g) (hK : X.K = K := by rfl) : SE K X (.BinOp a .Mult b pos) (tOp (rMulD K) ta tb) (dOp2 opMul f g) := by
  subst hK
  exact se_op prim_mul op_mulD ha hb
theorem se_div (ha : SE K X a ta f) (hb : SE K X b tb g) : SE K X (.BinOp a .FloorDiv b pos) (tOp (rI CDivW fun i j => .int (i / j)) ta tb) (dOp2 opDiv f g) := se_op prim_div op_fdivW ha hb
theorem se_mod (ha : SE K X a ta f) (hb : SE K X b tb g) : SE K X (.BinOp a .Mod b pos) (tOp (rI (fun _ j => 0 < j) fun i j => .int (i % j)) ta tb) (dOp2 opMod f g) := se_op prim_mod op_mod ha hb
theorem se_pow (ha : SE K X a ta f) (hb : SE K X b tb g) : SE K X (.BinOp a .Pow b pos) (tOp (rI CPow fun i j => .int (i ^ j.toNat)) ta tb) (dOp2 opPow f g) := se_op prim_pow op_pow ha hb
theorem se_neg (ha : SE K X a ta f) : SE K X (.UnaryOp .USub a pos) (tUn (rU fun i => .int (-i)) ta) (dOp1 opNeg f) := ⟨pe_un un_neg ha.pe, snd_op1 prim_neg ha.sn⟩
theorem se_cmp {op : CmpOp} {r : R2} {o : D → D → Option Rv} (hp : Prim2 K r o) (ho : OpR X (compareOp op) r) (hm : behindInMarks op b = false) (ha : SE K X a ta f) (hb : SE K X b tb g) : SE K X (.Compare a [op] [b] pos) (tOp r ta tb) (dOp2 o f g) := ⟨pe_cmpR ho ha.pe hb.pe hm, snd_op2 hp ha.sn hb.sn⟩
theorem st_cmp {op : CmpOp} {r : R2} {o : D → D → Option Rv} (hp : Prim2 K r o) (ho : OpR X (compareOp op) r) (hm : behindInMarks op b = false) (ha : SE K X a ta f) (hb : SE K X b tb g) : ST K X (.Compare a [op] [b] pos) (tTest (tOp r ta tb)) (dTest (dOp2 o f g)) := ⟨pt_cmpR ho ha.pe hb.pe hm, snd_testC (snd_op2 hp ha.sn hb.sn)⟩
/-- an expression that gives a bool, as a test -/
theorem st_val (ha : SE K X a ta f) (he : ∀ whole, isTrue a X.env whole = (do let v ← whole; standAt a.pos; holding [v] (truthy v)) := by intro _; rfl) : ST K X a (tB ta) (dTest f) := ⟨pt_val ha.pe he, snd_test ha.sn⟩
variable {t u : TT} {ft gt : DT}
theorem st_not (ha : ST K X a t ft) : ST K X (.UnaryOp .Not a pos) (tNot t) (dNot ft) := ⟨pt_not ha.pe, snd_not ha.sn⟩
theorem sw_and1 (ha : ST K X a t ft) : SW K X (.BoolOp .And [a] pos) t ft := ⟨pw_and1 ha.pe, ha.sn⟩
theorem sw_or1 (ha : ST K X a t ft) : SW K X (.BoolOp .Or [a] pos) t ft := ⟨pw_or1 ha.pe, ha.sn⟩
theorem sw_and {r : List Expr} (ha : ST K X a t ft) (hb : SW K X (.BoolOp .And (b :: r) pos) u gt) : SW K X (.BoolOp .And (a :: b :: r) pos) (tAnd t u) (dAnd ft gt) := ⟨pw_and ha.pe hb.pe, snd_and ha.sn hb.sn⟩
theorem sw_or {r : List Expr} (ha : ST K X a t ft) (hb : SW K X (.BoolOp .Or (b :: r) pos) u gt) : SW K X (.BoolOp .Or (a :: b :: r) pos) (tOr t u) (dOr ft gt) := ⟨pw_or ha.pe hb.pe, snd_or ha.sn hb.sn⟩
theorem st_w (ha : SW K X a t ft) : ST K X a t ft := ⟨ha.pe.pt, ha.sn⟩
theorem se_one {op} (ha : SE K X a ta f) : SE K X (.BoolOp op [a] pos) ta f := ⟨pe_one ha.pe, ha.sn⟩
theorem se_and {r : List Expr} (ha : SE K X a ta f) (hb : SE K X (.BoolOp .And (b :: r) pos) tb g) : SE K X (.BoolOp .And (a :: b :: r) pos) (tAndV ta tb) (dAndV f g) := ⟨pe_and ha.pe hb.pe, snd_andV ha.sn hb.sn⟩
theorem se_or {r : List Expr} (ha : SE K X a ta f) (hb : SE K X (.BoolOp .Or (b :: r) pos) tb g) : SE K X (.BoolOp .Or (a :: b :: r) pos) (tOrV ta tb) (dOrV f g) := ⟨pe_or ha.pe hb.pe, snd_orV ha.sn hb.sn⟩
theorem se_not (ha : SE K X a ta f) : SE K X (.UnaryOp .Not a pos) (tNotV ta) (dNotV f) := ⟨pe_not ha.pe, snd_notV ha.sn⟩
theorem se_if (hc : ST K X c t ft) (ha : SE K X a ta f) (hb : SE K X b tb g) : SE K X (.IfExp c a b pos) (tIf t ta tb) (dIf ft f g) := ⟨pe_ifExp hc.pe ha.pe hb.pe, snd_if hc.sn ha.sn hb.sn⟩
/-! lists of arguments -/
variable {tr tk : TA} {fr fk : DA}
theorem sa_nil : SA K X [] tNil dNil := ⟨pa_nil, snd_nil⟩
theorem sa_cons (ha : SE K X e te f) (hr : SA K X es tr fr) (hs : starEach (e :: es) X.env = (false, eval e X.env) :: starEach es X.env := by rfl) : SA K X (e :: es) (tCons te tr) (dCons f fr) := ⟨pa_cons ha.pe hr.pe hs, snd_cons ha.sn hr.sn⟩
theorem sk_nil : SK K X [] tNil dNil := ⟨pk_nil, snd_nil⟩
theorem sk_cons {nm : Option Str} {kpos : Pos} {kws : List Keyword} (ha : SE K X e te f) (hr : SK K X kws tr fr) : SK K X (⟨nm, e, kpos⟩ :: kws) (tCons te tr) (dCons f fr) := ⟨pk_cons ha.pe hr.pe, snd_cons ha.sn hr.sn⟩
theorem se_tup {k} (h : SA K X es tr fr) : SE K X (.Tuple es k pos) (tTup tr) (dTup fr) := ⟨pe_tup h.pe, snd_tup h.sn⟩
theorem se_lst (h : SA K X es tr fr) : SE K X (.List es pos) (tLst tr) (dList fr) := ⟨pe_lst h.pe, snd_list h.sn⟩
/-! subscripts -/
theorem se_ix (ha : SE K X a ta f) (hb : SE K X b tb g) (hs : PlainIx b := by intro _ _; rfl) (hK : X.K = K := by rfl) : SE K X (.Subscript a b pos) (tOp (rIx K) ta tb) (dOp2 opIx f g) := by
  subst hK
  exact ⟨pe_ix ix_seq ha.pe hb.pe hs, snd_op2 prim_ix ha.sn hb.sn⟩
theorem so_none : SO K X none tNoPart dNoPart := ⟨po_none, snd_nopart⟩
theorem so_some (ha : SE K X a ta f) : SO K X (some a) (tPart ta) (dPart f) := ⟨po_some ha.pe, snd_part ha.sn⟩
theorem se_slice {lo hi : Option Expr} {p2 : Pos} {tl th : TO} {fl fh : DO} (ha : SE K X a ta f) (hl : SO K X lo tl fl) (hh : SO K X hi th fh) (hK : X.K = K := by rfl) : SE K X (.Subscript a (.Slice lo hi none p2) pos) (tSl (rSlL K) ta tl th) (dSlice opSlice f fl fh) := by
  subst hK
  exact ⟨pe_slice sl_list ha.pe hl.pe hh.pe, snd_slice prim_slice ha.sn hl.sn hh.sn⟩
theorem se_rev {k : Nat} {p1 p2 p3 : Pos} (ha : SE K X a ta f) (hK : X.K = K := by rfl) : SE K X (.Subscript a (.Slice none none (some (.UnaryOp .USub (.Constant (.int 1) k p1) p2)) p3) pos) (tRevL K ta) (dOp1 opRev f) := by
  subst hK
  exact ⟨pe_revL ha.pe, snd_rev ha.sn⟩
/-! calls of built-ins -/
theorem se_callB {id : String} {r : List V → Hp → VK → Prop} {o : List D → Option Rv} (hp : PrimN K r o) (hc : CallR X (.builtin id) r) (hg : Gl X x) (hm : X.mg x = none) (hv : bootBuiltins x = some (.builtin id)) (ha : SA K X (e :: es) tr fr) (hn : x ≠ "__name__" := by decide) (hdb : (x == ("__debug__" : Str)) = false := by decide)
    (he : starEach (e :: es) X.env = (false, eval e X.env) :: starEach es X.env := by rfl) (hpl : (backTo pos (starEach es X.env)).any (·.1) = false := by rfl) : SE K X (.Call (.Name x p) (e :: es) [] pos) (tCB r tr) (dCallB o fr) := ⟨pe_callB hc hg hm hv ha.pe hn hdb he hpl, snd_callB hp ha.sn⟩
theorem se_callTy {T : String} {r : List V → Hp → VK → Prop} {o : List D → Option Rv} (hp : PrimN K r o) (hc : CallR X (.type T) r) (hg : Gl X x) (hm : X.mg x = none) (hv : bootBuiltins x = some (.type T)) (ha : SA K X (e :: es) tr fr) (hn : x ≠ "__name__" := by decide) (hdb : (x == ("__debug__" : Str)) = false := by decide)
    (he : starEach (e :: es) X.env = (false, eval e X.env) :: starEach es X.env := by rfl) (hpl : (backTo pos (starEach es X.env)).any (·.1) = false := by rfl) : SE K X (.Call (.Name x p) (e :: es) [] pos) (tCB r tr) (dCallB o fr) := ⟨pe_callTy hc hg hm hv ha.pe hn hdb he hpl, snd_callB hp ha.sn⟩
/-- isinstance(e, T) -/
theorem se_isi {T : String} {y : Str} {p2 : Pos} (hT : TyOkc T) (hg : Gl X "isinstance") (hm : X.mg "isinstance" = none) (hb : bootBuiltins "isinstance" = some (.builtin "isinstance")) (hg2 : Gl X y) (hm2 : X.mg y = none) (hb2 : bootBuiltins y = some (.type T)) (ha : SE K X a ta f) (hn : y ≠ "__name__" := by decide) (hd : (y == ("__debug__" : Str)) = false := by decide)
    (h1 : starEach [a, .Name y p2] X.env = (false, eval a X.env) :: starEach [.Name y p2] X.env := by rfl) (h2 : starEach [.Name y p2] X.env = (false, eval (.Name y p2) X.env) :: starEach [] X.env := by rfl) (h3 : (backTo pos (starEach [.Name y p2] X.env)).any (·.1) = false := by rfl) (hK : X.K = K := by rfl) :
    SE K X (.Call (.Name "isinstance" p) [a, .Name y p2] [] pos) (tCB (rIsi K) (tCons ta (tCons (tC (.ty T)) tNil))) (dOp1 (bIsi T) f) := by
  subst hK
  exact ⟨pe_callB call_isi hg hm hb (pa_cons ha.pe (pa_cons (pe_bltn (v := .ty T) hg2 hm2 hb2 rfl hn hd) pa_nil h2) h1) (by decide) (by decide) h1 h3, snd_isi hT ha.sn⟩
/-- isinstance(e, (T, U)) -/
theorem se_isi2 {T U : String} {y z : Str} {p2 p3 p4 : Pos} {k} (hT : TyOkc T) (hU : TyOkc U) (hg : Gl X "isinstance") (hm : X.mg "isinstance" = none) (hb : bootBuiltins "isinstance" = some (.builtin "isinstance")) (hg2 : Gl X y) (hm2 : X.mg y = none) (hb2 : bootBuiltins y = some (.type T)) (hg3 : Gl X z) (hm3 : X.mg z = none) (hb3 : bootBuiltins z = some (.type U)) (ha : SE K X a ta f)
    (hn : y ≠ "__name__" := by decide) (hd : (y == ("__debug__" : Str)) = false := by decide) (hn' : z ≠ "__name__" := by decide) (hd' : (z == ("__debug__" : Str)) = false := by decide)
    (h1 : starEach [a, .Tuple [.Name y p2, .Name z p3] k p4] X.env = (false, eval a X.env) :: starEach [.Tuple [.Name y p2, .Name z p3] k p4] X.env := by rfl) (h2 : starEach [.Tuple [.Name y p2, .Name z p3] k p4] X.env = (false, eval (.Tuple [.Name y p2, .Name z p3] k p4) X.env) :: starEach [] X.env := by rfl) (h3 : (backTo pos (starEach [.Tuple [.Name y p2, .Name z p3] k p4] X.env)).any (·.1) = false := by rfl)
    (h4 : starEach [.Name y p2, .Name z p3] X.env = (false, eval (.Name y p2) X.env) :: starEach [.Name z p3] X.env := by rfl) (h5 : starEach [.Name z p3] X.env = (false, eval (.Name z p3) X.env) :: starEach [] X.env := by rfl) (hK : X.K = K := by rfl) :
    SE K X (.Call (.Name "isinstance" p) [a, .Tuple [.Name y p2, .Name z p3] k p4] [] pos) (tCB (rIsiT K) (tCons ta (tCons (tTup (tCons (tC (.ty T)) (tCons (tC (.ty U)) tNil))) tNil))) (dOp1 (bIsi2 T U) f) := by
  subst hK
  exact ⟨pe_callB call_isiT hg hm hb (pa_cons ha.pe (pa_cons (pe_tup (pa_cons (pe_bltn (v := .ty T) hg2 hm2 hb2 rfl hn hd) (pa_cons (pe_bltn (v := .ty U) hg3 hm3 hb3 rfl hn' hd') pa_nil h5) h4)) pa_nil h2) h1) (by decide) (by decide) h1 h3, snd_isi2 hT hU ha.sn⟩
/-! calls of defs -/
theorem se_call {lv n : Nat} {fa : Addr} {fd : FuncData} {ps : List Str} {G : Fn} {ds : List Value} {dvs : List V} {modes : List Bool} {more : List PyData} (F : FnG X.prog X.w X.K X.mg X.base CX0 lv fa fd ps (spD K n G)) (hr : Room lv X.A) (gd : X.A.guards = some []) (hg : Gl X x) (hm : X.mg x = some (.ref fa)) (kp : PySem.W.keepIn X.K (.ref fa) = true) (hb : Binds X.K fd ps ds) (hd : Vals dvs ds)
    (hdd : ∀ (F : Addr → Prop) (H : Hp), RpAll K F H dvs more) (hn : modes.length + more.length = n) (ha : SA K X (e :: es) tr fr) (h1 : (x == ("__debug__" : Str)) = false := by decide) (h2 : starEach (e :: es) X.env = (false, eval e X.env) :: starEach es X.env := by rfl) (h3 : (backTo pos (starEach es X.env)).any (·.1) = false := by rfl) (hK : X.K = K := by rfl) :
    SE K X (.Call (.Name x p) (e :: es) [] pos) (tCall (spD K n G) dvs E0 tr) (dCall G modes more fr) := by
  subst hK
  exact ⟨pe_callG F hr gd hg hm kp hb hd pass0 ha.pe h1 h2 h3, snd_call hdd hn ha.sn⟩
theorem se_call0 {lv n : Nat} {fa : Addr} {fd : FuncData} {ps : List Str} {G : Fn} {ds : List Value} {dvs : List V} {more : List PyData} (F : FnG X.prog X.w X.K X.mg X.base CX0 lv fa fd ps (spD K n G)) (hr : Room lv X.A) (gd : X.A.guards = some []) (hg : Gl X x) (hm : X.mg x = some (.ref fa)) (kp : PySem.W.keepIn X.K (.ref fa) = true) (hb : Binds X.K fd ps ds) (hd : Vals dvs ds)
    (hdd : ∀ (F : Addr → Prop) (H : Hp), RpAll K F H dvs more) (hn : ([] : List Bool).length + more.length = n) (h1 : (x == ("__debug__" : Str)) = false := by decide) (hK : X.K = K := by rfl) :
    SE K X (.Call (.Name x p) [] [] pos) (tCall (spD K n G) dvs E0 tNil) (dCall G [] more dNil) := by
  subst hK
  exact ⟨pe_call0G F hr gd hg hm kp hb hd pass0 h1, snd_call hdd hn snd_nil⟩
theorem se_callP {lv l n : Nat} {fa : Addr} {fd : FuncData} {ps ks : List Str} {G : Fn} {ds : List Value} {dvs : List V} {perm : List Nat} {more : List PyData} {kws : List Keyword} {m : Nat} (F : FnG X.prog X.w X.K X.mg X.base CX0 lv fa fd ps (spD K l G)) (hr : Room lv X.A) (gd : X.A.guards = some []) (hg : Gl X x) (hm : X.mg x = some (.ref fa)) (kp : PySem.W.keepIn X.K (.ref fa) = true) (hb : KB X.K fd ps ks n perm ds) (hd : Vals dvs ds)
    (hdd : ∀ (F : Addr → Prop) (H : Hp), RpAll K F H dvs more) (hm : ks.length = m) (hl : (permute perm (List.replicate (n + m + more.length) ())).length = l) (ha : SA K X (e :: es) tr fr) (hk : SK K X kws tk fk) (k1 : (backToKw pos (keywordEach kws X.env)).all (·.1.isSome) = true := by rfl) (k2 : (backToKw pos (keywordEach kws X.env)).filterMap (·.1) = ks := by rfl)
    (h1 : (x == ("__debug__" : Str)) = false := by decide) (h2 : starEach (e :: es) X.env = (false, eval e X.env) :: starEach es X.env := by rfl) (h3 : ((backTo pos (starEach (e :: es) X.env)).any (·.1) || (backToKw pos (keywordEach kws X.env)).any (·.1.isNone)) = false := by rfl) (hK : X.K = K := by rfl) :
    SE K X (.Call (.Name x p) (e :: es) kws pos) (tCallP n m perm dvs (spD K l G) E0 tr tk) (dCallK G n m perm more fr fk) := by
  subst hK hm
  exact ⟨pe_callP F hr gd hg hm kp hb hd pass0 ha.pe hk.pe k1 k2 h1 h2 h3, snd_callP hdd hl ha.sn hk.sn⟩
theorem se_callP0 {lv l : Nat} {fa : Addr} {fd : FuncData} {ps ks : List Str} {G : Fn} {ds : List Value} {dvs : List V} {perm : List Nat} {more : List PyData} {kws : List Keyword} {m : Nat} (F : FnG X.prog X.w X.K X.mg X.base CX0 lv fa fd ps (spD K l G)) (hr : Room lv X.A) (gd : X.A.guards = some []) (hg : Gl X x) (hm : X.mg x = some (.ref fa)) (kp : PySem.W.keepIn X.K (.ref fa) = true) (hb : KB X.K fd ps ks 0 perm ds) (hd : Vals dvs ds)
    (hdd : ∀ (F : Addr → Prop) (H : Hp), RpAll K F H dvs more) (hm : ks.length = m) (hl : (permute perm (List.replicate (0 + m + more.length) ())).length = l) (hk : SK K X kws tk fk) (k1 : (backToKw pos (keywordEach kws X.env)).all (·.1.isSome) = true := by rfl) (k2 : (backToKw pos (keywordEach kws X.env)).filterMap (·.1) = ks := by rfl)
    (h1 : (x == ("__debug__" : Str)) = false := by decide) (h3 : ((backTo pos (starEach [] X.env)).any (·.1) || (backToKw pos (keywordEach kws X.env)).any (·.1.isNone)) = false := by rfl) (hK : X.K = K := by rfl) :
    SE K X (.Call (.Name x p) [] kws pos) (tCallP 0 m perm dvs (spD K l G) E0 tNil tk) (dCallK G 0 m perm more dNil fk) := by
  subst hK hm
  exact ⟨pe_callP0 F hr gd hg hm kp hb hd pass0 hk.pe k1 k2 h1 h3, snd_callP hdd hl snd_nil hk.sn⟩
/-! walked things -/
variable {tg : Expr}
theorem si_list (ha : SE K X a ta f) (hK : X.K = K := by rfl) : SI K X tg a (L2.iList K ta) (dIter DL.iList f) := by
  subst hK
  exact ⟨pi_list ha.pe, snd_ilist ha.sn⟩
theorem si_tup (ha : SE K X a ta f) (hK : X.K = K := by rfl) : SI K X tg a (L2.iTup K ta) (dIter DL.iTup f) := by
  subst hK
  exact ⟨pi_tup ha.pe, snd_itup ha.sn⟩
def iSeqT (K : PySem.W.Frag) (tl : TE) : TI := fun σ H R => tl σ H fun x H1 => ∃ a, x = .ref a ∧ (((∃ xs, SqL K H1 a xs) ∧ R (Itl K a) H1) ∨ ((∃ xs, SqT K H1 a xs) ∧ R (Itt K a) H1))
theorem pi_seq {l : Expr} {tl : TE} (hl : PE X l tl) : PI X tg l (iSeqT X.K tl) := by
  refine ⟨fun pins s σ H R I h => ?_⟩
  refine thn (hl.run pins s σ H _ I h) fun v s1 ⟨x, H1, I1, r1, q1⟩ => ?_
  obtain ⟨a, e, q1⟩ := q1
  subst e
  cases r1
  rcases q1 with ⟨⟨xs, hq⟩, q⟩ | ⟨⟨xs, hq⟩, q⟩
  · obtain ⟨its, rv, p, hz⟩ := I1.list hq
    refine wpAny_pyIter_list p.isList ?_
    refine ⟨s1.heap.objs.size, [s1.heap.objs.size], _, _, H1, rfl, I1.kept (t' := s1.toks) fun b o e => Heap.get?_push_of_some _ e, turn_list a _, ⟨_, Heap.get?_push_size _ rfl, rfl, rfl⟩, fun b hb => ?_, q⟩
    have e : b = s1.heap.objs.size := by simpa using hb
    subst e
    exact I1.fpOk (Nat.le_refl _) (I1.hok.fresh (Nat.le_refl _))
  · obtain ⟨its, rv, p, hz⟩ := I1.tuple hq
    refine wpAny_pyIter_tuple (show s1.heap.IsTuple a its.toArray from p) ?_
    refine ⟨s1.heap.objs.size, [s1.heap.objs.size], _, _, H1, rfl, I1.kept (t' := s1.toks) fun b o e => Heap.get?_push_of_some _ e, turn_tuple a _, ⟨_, Heap.get?_push_size _ rfl, rfl, rfl⟩, fun b hb => ?_, q⟩
    have e : b = s1.heap.objs.size := by simpa using hb
    subst e
    exact I1.fpOk (Nat.le_refl _) (I1.hok.fresh (Nat.le_refl _))
theorem snd_iseq {t : TE} {f : DE} (a : SndE K t f) : SndI K (iSeqT K t) (dIter DL.iSeq f) := by
  intro H0 M st σ F H ds st' R S e q
  obtain ⟨p, e1, e⟩ := bs e
  obtain ⟨⟨y, s2⟩, e2, e⟩ := bs e
  obtain ⟨zs, e3, e⟩ := bs e
  cases e
  refine a H0 M st σ F H p.1 p.2 _ S e1 fun v F1 H1 S1 E1 f1 r1 => ?_
  obtain ⟨F2, S2, E2, r2, _⟩ := toD_ok S1 E1 r1.weak e2
  cases y <;> try (cases e3; done)
  · cases e3
    cases r2 with
    | lst h hs => exact ⟨_, rfl, .inl ⟨⟨_, h.sql⟩, q _ F2 H1 S2 E2 (wd_list h hs)⟩⟩
  · cases e3
    cases r2 with
    | tup h hs => exact ⟨_, rfl, .inr ⟨⟨_, h⟩, q _ F2 H1 S2 E2 (wd_tup h hs)⟩⟩
theorem si_seq (ha : SE K X a ta f) (hK : X.K = K := by rfl) : SI K X tg a (iSeqT K ta) (dIter DL.iSeq f) := by
  subst hK
  exact ⟨pi_seq ha.pe, snd_iseq ha.sn⟩
theorem si_range1 (hg : Gl X "range") (hm : X.mg "range" = none) (ha : SA K X [a] tr fr) (hs : starEach [a] X.env = [(false, eval a X.env)] := by rfl) : SI K X tg (.Call (.Name "range" p) [a] [] pos) (iRng1 tr) (dIterA iRange1 fr) := ⟨pi_range1 hg hm ha.pe hs, snd_irange1 ha.sn⟩
theorem si_range2 (hg : Gl X "range") (hm : X.mg "range" = none) (ha : SA K X [a, b] tr fr) (hs : starEach [a, b] X.env = [(false, eval a X.env), (false, eval b X.env)] := by rfl) (hs2 : starEach [b] X.env = [(false, eval b X.env)] := by rfl) : SI K X tg (.Call (.Name "range" p) [a, b] [] pos) (iRng2 tr) (dIterA iRange2 fr) := ⟨pi_range2 hg hm ha.pe hs hs2, snd_irange2 ha.sn⟩
theorem si_zip {tpos : Pos} {elts : List Expr} {kk : Nat} (hg : Gl X "zip") (hm : X.mg "zip" = none) (ha : SA K X [a, b] tr fr) (hs : starEach [a, b] X.env = (false, eval a X.env) :: starEach [b] X.env := by rfl) (hpl : (backTo pos (starEach [b] X.env)).any (·.1) = false := by rfl) (hK : X.K = K := by rfl) :
    SI K X (.Tuple elts kk tpos) (.Call (.Name "zip" p) [a, b] [] pos) (RZ.iZipA K tr) (dIterA DL.iZip fr) := by
  subst hK
  exact ⟨RZ.pi_zipA hg hm ha.pe hs hpl, snd_izip ha.sn⟩
theorem si_enum {tpos : Pos} {elts : List Expr} {kk : Nat} (hg : Gl X "enumerate") (hm : X.mg "enumerate" = none) (ha : SA K X [a] tr fr) (hs : starEach [a] X.env = [(false, eval a X.env)] := by rfl) (hK : X.K = K := by rfl) :
    SI K X (.Tuple elts kk tpos) (.Call (.Name "enumerate" p) [a] [] pos) (L2.iEnum K tr) (dIterA DL.iEnum fr) := by
  subst hK
  exact ⟨pi_enum hg hm ha.pe hs, snd_ienum ha.sn⟩
/-! targets -/
theorem sg_name (i : Nat) (hN : X.N.Nodup) (hi : X.N[i]? = some x) (hx : Loc X.env.scope x) (hf : X.fn x = true ∨ X.env.scope.names.lookup x = some .local := by first | exact .inl rfl | exact .inr rfl | assumption) : SG K X (.Name x pos) [i] (L2.gName i) (DL.gName i) := ⟨pg_name hN hi hx hf, snd_gname⟩
theorem sgs_nil : SGs K X [] [] L2.gNil DL.gNil := ⟨pgs_nil, snd_gnil⟩
theorem sgs_cons {is js : List Nat} {t : TG} {u : TGs} {dg : DG} {dh : DGs} (h1 : SG K X e is t dg) (h2 : SGs K X es js u dh) (hs : (assignEach (e :: es) X.env).map (·.2) = assign e X.env :: (assignEach es X.env).map (·.2) := by rfl) : SGs K X (e :: es) (is ++ js) (L2.gCons t u) (DL.gCons dg dh) := ⟨pgs_cons h1.pe h2.pe hs, snd_gcons h1.sn h2.sn⟩
theorem sg_tup {is : List Nat} {k : Nat} {t : TGs} {dh : DGs} {n : Nat} (hc : X.calm = true) (h : SGs K X es is t dh) (hn : (assignEach es X.env).length = n := by rfl) (hst : (assignEach es X.env).findIdx? (·.1) = none := by rfl) (hK : X.K = K := by rfl) : SG K X (.Tuple es k pos) is (L2.gTup K n t) (DL.gTup n dh) := by
  subst hK
  exact ⟨pg_tup hc h.pe hn hst, snd_gtup h.sn⟩
/-! comprehensions -/
structure STs (K : PySem.W.Frag) (X : Cx) (es : List Expr) (t : TT) (f : DT) : Prop where
  pe : PTs X es t
  sn : SndT K t f
theorem snd_yes : SndT K tYes dTests := by
  intro H0 M st σ F H b st' Q S e q
  cases e
  exact q F H S .refl trivial
theorem sts_nil : STs K X [] tYes dTests := ⟨pts_nil, snd_yes⟩
theorem sts_one (h : ST K X a t ft) : STs K X [a] t ft := ⟨pts_one h.pe, h.sn⟩
theorem se_lc {elt tgt iter : Expr} {ifs : List Expr} {scope : Scope} {own : List (Str × Nat)} {is vs : List Nat} {wi : TI} {tgr : TG} {tt : TT} {teL : TE} {it : DI} {dg : DG} {dt : DT} {de : DE} (hc : X.calm = true) (hN : X.N.Nodup) (hi : SI K X tgt iter wi it) (ok : BlkOk X.N X.env.scope scope own)
    (hg : ∀ (s : Shared) (H : Hp) (C : Addr) (cl : List (Str × Addr)) (fp : List Addr), SG K (X.blk s H scope (compEnvC scope cl C X.env) fp) tgt is tgr dg) (ht : ∀ (s : Shared) (H : Hp) (C : Addr) (cl : List (Str × Addr)) (fp : List Addr), STs K (X.blk s H scope (compEnvC scope cl C X.env) fp) ifs tt dt)
    (he : ∀ (s : Shared) (H : Hp) (C : Addr) (cl : List (Str × Addr)) (fp : List Addr), SE K (X.blk s H scope (compEnvC scope cl C X.env) fp) elt teL de) (hvs : own.map (·.2) = vs) (hsub : ∀ j ∈ is, j ∈ vs) (hs : ∀ x, foldedSetIterable iter X.env x = pure x := by intro _; rfl) (hK : X.K = K := by rfl) :
    SE K X (.ListComp elt [⟨tgt, iter, ifs, 0⟩] scope pos) (tLc wi tgr tt teL vs) (dLc it dg dt de vs) := by
  subst hK
  subst hvs
  exact
  ⟨pe_lc hc hN hi.pe ok (fun s H C cl fp => (hg s H C cl fp).pe) (fun s H C cl fp => (ht s H C cl fp).pe) (fun s H C cl fp => (he s H C cl fp).pe) hs,
    snd_lc hi.sn (hg {} (fun _ => none) 0 [] []).sn (ht {} (fun _ => none) 0 [] []).sn (he {} (fun _ => none) 0 [] []).sn hsub⟩
/-! statements -/
variable {st : Stmt} {rest : List Stmt} {ts us : TS} {fs gs : DS}
theorem sss_nil : SSs K X [] tNext dNext := ⟨pss_nil, snd_next⟩
theorem sss_cons (h1 : SS K X st ts fs) (h2 : SSs K X rest us gs) : SSs K X (st :: rest) (tSeq ts us) (dSeq fs gs) := ⟨pss_cons h1.pe h2.pe, snd_seq h1.sn h2.sn⟩
theorem sss_one (h1 : SS K X st ts fs) : SSs K X [st] ts fs := ⟨pss_one h1.pe, h1.sn⟩
theorem sss_never {sts : List Stmt} : SSs K X sts tNever dNever := ⟨pss_never, snd_never⟩
theorem ss_never : SS K X st tNever dNever := ⟨ps_never, snd_never⟩
theorem ss_pass : SS K X (.Pass pos) tNext dNext := ⟨ps_pass, snd_next⟩
theorem ss_break : SS K X (.Break pos) tBreak dBreak := ⟨ps_break, snd_break⟩
theorem ss_continue : SS K X (.Continue pos) tCont dCont := ⟨ps_continue, snd_cont⟩
theorem ss_set (i : Nat) {pos' : Pos} (hN : X.N.Nodup) (hi : X.N[i]? = some x) (hx : Loc X.env.scope x) (he : SE K X e te f) (hs : swapsWith e (some (.Name x pos')) pos.line X.env = pure false := by rfl) (hf : X.fn x = true ∨ X.env.scope.names.lookup x = some .local := by first | exact .inl rfl | exact .inr rfl | assumption) :
    SS K X (.Assign [.Name x pos'] e pos) (tAsg te (L2.gName i)) (dSet i f) := ⟨ps_set hN hi hx he.pe hs hf, snd_set he.sn⟩
theorem ss_setLc (i : Nat) {py lpos : Pos} {elt tgt iter : Expr} {ifs : List Expr} {scope : Scope} {own : List (Str × Nat)} {is vs : List Nat} {wi : TI} {tgr : TG} {tt : TT} {teL : TE} {it : DI} {dg : DG} {dt : DT} {de : DE} (hc : X.calm = true) (hN : X.N.Nodup) (hy : X.N[i]? = some x) (hyl : X.env.scope.names.lookup x = some .local)
    (hsw : swapsWith (.ListComp elt [⟨tgt, iter, ifs, 0⟩] scope lpos) (some (.Name x py)) pos.line X.env = pure true) (hi : SI K X tgt iter wi it) (ok : BlkOk X.N X.env.scope scope own)
    (hg : ∀ (s : Shared) (H : Hp) (C : Addr) (cl : List (Str × Addr)) (fp : List Addr), SG K (X.blk s H scope (compEnvC scope cl C X.env) fp) tgt is tgr dg) (ht : ∀ (s : Shared) (H : Hp) (C : Addr) (cl : List (Str × Addr)) (fp : List Addr), STs K (X.blk s H scope (compEnvC scope cl C X.env) fp) ifs tt dt)
    (he : ∀ (s : Shared) (H : Hp) (C : Addr) (cl : List (Str × Addr)) (fp : List Addr), SE K (X.blk s H scope (compEnvC scope cl C X.env) fp) elt teL de) (hvs : own.map (·.2) = vs) (hsub : ∀ j ∈ is, j ∈ vs) (hs : ∀ x, foldedSetIterable iter X.env x = pure x := by intro _; rfl) (hK : X.K = K := by rfl) :
    SS K X (.Assign [.Name x py] (.ListComp elt [⟨tgt, iter, ifs, 0⟩] scope lpos) pos) (tAsg (tLc wi tgr tt teL vs) (L2.gName i)) (dSet i (dLc it dg dt de vs)) := by
  subst hK
  subst hvs
  exact
  ⟨ps_setLc hc hN hy hyl hsw hi.pe ok (fun s H C cl fp => (hg s H C cl fp).pe) (fun s H C cl fp => (ht s H C cl fp).pe) (fun s H C cl fp => (he s H C cl fp).pe) hs,
    snd_set (snd_lc hi.sn (hg {} (fun _ => none) 0 [] []).sn (ht {} (fun _ => none) 0 [] []).sn (he {} (fun _ => none) 0 [] []).sn hsub)⟩
theorem ss_asg {is : List Nat} {tgr : TG} {dg : DG} (he : SE K X e te f) (hg : SG K X tg is tgr dg) (hs : swapsWithSole [tg] e pos.line X.env = pure false := by rfl) (hw : swappedStores [tg] e X.env = pure none := by rfl) (h1 : (assignEach [tg] X.env).map (·.2) = [assign tg X.env] := by rfl) :
    SS K X (.Assign [tg] e pos) (tAsg te tgr) (dAsg dg f) := ⟨ps_asg he.pe hg.pe hs hw h1, snd_asg he.sn hg.sn⟩
theorem ss_par (i j : Nat) {y : Str} {px py pt : Pos} {kt k2 pt2} (hc : X.calm = true) (hN : X.N.Nodup) (hi : X.N[i]? = some x) (hj : X.N[j]? = some y) (hij : i ≠ j) (hx : X.env.scope.names.lookup x = some .local) (hy : X.env.scope.names.lookup y = some .local) (ha : SA K X [a, b] tr fr)
    (hw : swappedStores [.Tuple [.Name x px, .Name y py] kt pt] (.Tuple [a, b] k2 pt2) X.env = pure (some [x, y])) (hs : swapsWithSole [.Tuple [.Name x px, .Name y py] kt pt] (.Tuple [a, b] k2 pt2) pos.line X.env = pure false := by rfl) :
    SS K X (.Assign [.Tuple [.Name x px, .Name y py] kt pt] (.Tuple [a, b] k2 pt2) pos) (tPar i j tr) (dPar [i, j] fr) := ⟨ps_par hc hN hi hj hij hx hy ha.pe hw hs, snd_par2 ha.sn⟩
theorem ss_par3 (i j l : Nat) {y z : Str} {px py pz pt : Pos} {kt k2 pt2} (hc : X.calm = true) (hN : X.N.Nodup) (hi : X.N[i]? = some x) (hj : X.N[j]? = some y) (hl : X.N[l]? = some z) (hij : i ≠ j) (hil : i ≠ l) (hjl : j ≠ l) (hx : X.env.scope.names.lookup x = some .local) (hy : X.env.scope.names.lookup y = some .local) (hz : X.env.scope.names.lookup z = some .local) (ha : SA K X [a, b, c] tr fr)
    (hw : swappedStores [.Tuple [.Name x px, .Name y py, .Name z pz] kt pt] (.Tuple [a, b, c] k2 pt2) X.env = pure (some [x, y, z])) (hs : swapsWithSole [.Tuple [.Name x px, .Name y py, .Name z pz] kt pt] (.Tuple [a, b, c] k2 pt2) pos.line X.env = pure false := by rfl) :
    SS K X (.Assign [.Tuple [.Name x px, .Name y py, .Name z pz] kt pt] (.Tuple [a, b, c] k2 pt2) pos) (tPar3 i j l tr) (dPar [i, j, l] fr) := ⟨ps_par3 hc hN hi hj hl hij hil hjl hx hy hz ha.pe hw hs, snd_par3 ha.sn⟩
theorem ss_augAdd (i : Nat) {pos' : Pos} (hN : X.N.Nodup) (hi : X.N[i]? = some x) (hx : Loc X.env.scope x) (he : SE K X e te f) (hf : X.fn x = true ∨ X.env.scope.names.lookup x = some .local := by first | exact .inl rfl | exact .inr rfl | assumption) : SS K X (.AugAssign (.Name x pos') .Add e pos) (tAug i te (ipI fun i j => i + j)) (dAug opAddI i f) :=
  ⟨ps_aug hN hi hx he.pe ip_add hf, snd_aug prim_addI he.sn⟩
theorem ss_augSub (i : Nat) {pos' : Pos} (hN : X.N.Nodup) (hi : X.N[i]? = some x) (hx : Loc X.env.scope x) (he : SE K X e te f) (hf : X.fn x = true ∨ X.env.scope.names.lookup x = some .local := by first | exact .inl rfl | exact .inr rfl | assumption) : SS K X (.AugAssign (.Name x pos') .Sub e pos) (tAug i te (ipI fun i j => i - j)) (dAug opSub i f) :=
  ⟨ps_aug hN hi hx he.pe ip_sub hf, snd_aug prim_sub he.sn⟩
theorem ss_append (i : Nat) {call : Expr} (hp : PE X e te → PE X call (tBM K "list" rAppend (tVar i) (tCons te tNil))) (he : SE K X e te f) (hs : swapsWith call none pos.line X.env = pure false := by rfl) (hK : X.K = K := by rfl) :
    SS K X (.Expr call pos) (tDrop (tBM K "list" rAppend (tVar i) (tCons te tNil))) (dAppend i f) := by
  subst hK
  exact ⟨ps_expr (hp he.pe) hs, snd_append he.sn⟩
theorem ss_setIx (i : Nat) {p2 : Pos} {o : Expr} (hv : PE X o (tVar i)) (hk : SE K X b tb g) (he : SE K X e te f)
    (ha : ∀ v, assign (.Subscript o b p2) X.env v = (do
      let ov ← holding [v] (eval o X.env)
      let iv ← holding [v, ov] (eval b X.env)
      standAt p2
      holding [v, ov, iv] (setItem ov iv v)
      release [v, ov, iv] []) := by intro _; rfl)
    (hs : swapsWithSole [.Subscript o b p2] e pos.line X.env = pure false := by rfl) (hw : swappedStores [.Subscript o b p2] e X.env = pure none := by rfl) (h1 : (assignEach [.Subscript o b p2] X.env).map (·.2) = [assign (.Subscript o b p2) X.env] := by rfl) (hK : X.K = K := by rfl) :
    SS K X (.Assign [.Subscript o b p2] e pos) (tAsg te (gSub (tVar i) tb rSetL)) (dSetIx i g f) := by
  subst hK
  exact ⟨ps_asg he.pe (pg_sub hv hk.pe set_list ha) hs hw h1, snd_setIx hk.sn he.sn⟩
theorem ss_augIx (i : Nat) {p2 : Pos} {o : Expr} {op : Operator} {tip : TIp} {oo : D → D → Option Rv} (hpr : Prim2 K tip oo) (hp : PIp X op tip) (hv : PE X o (tVar i)) (hk : SE K X b tb g) (he : SE K X e te f) (ha : ∀ ov iv new, augStore b ov iv new = (do holding [new, ov, iv] (setItem ov iv new); release [new, ov, iv] []; pure .next) := by intros; rfl) (hK : X.K = K := by rfl) :
    SS K X (.AugAssign (.Subscript o b p2) op e pos) (tAugS (tVar i) tb te (rIxL K) tip rSetL) (dAugIx oo i g f) := by
  subst hK
  exact ⟨ps_augS hv hk.pe pget_list he.pe hp set_list ha, snd_augIx hpr hk.sn he.sn⟩
theorem ss_drop (he : SE K X e te f) (hs : swapsWith e none pos.line X.env = pure false := by rfl) : SS K X (.Expr e pos) (tDrop te) (dDrop f) := ⟨ps_expr he.pe hs, snd_drop he.sn⟩
theorem ss_ret (he : SE K X e te f) : SS K X (.Return (some e) pos) (tRet te) (dRet f) := ⟨ps_ret he.pe, snd_ret he.sn⟩
theorem ss_retN : SS K X (.Return none pos) tRetN dRetN := ⟨ps_retN, snd_retN⟩
theorem ss_if {s1 s2 : List Stmt} (hc : ST K X c t ft) (h1 : SSs K X s1 ts fs) (h2 : SSs K X s2 us gs) : SS K X (.If c s1 s2 pos) (tIfS t ts us) (dIfS ft fs gs) := ⟨ps_if hc.pe h1.pe h2.pe, snd_ifS hc.sn h1.sn h2.sn⟩
theorem ss_for {is : List Nat} {iter : Expr} {body : List Stmt} {wi : TI} {it : DI} {tgr : TG} {dg : DG} (hp : PassesOwn (model X.prog X.w) X.A X.env X.xe) (hc : X.calm = true) (hi : SI K X tg iter wi it) (hg : SG K X tg is tgr dg) (hb : SSs K X body ts fs) (hs : ∀ x, foldedSetIterable iter X.env x = pure x := by intro _; rfl) :
    SS K X (.For tg iter body [] pos) (tFor wi tgr ts) (dFor it dg fs) := ⟨ps_for hp hc hi.pe hg.pe hb.pe hs, snd_for hi.sn hg.sn hb.sn⟩
theorem ss_while {body : List Stmt} (hp : PassesOwn (model X.prog X.w) X.A X.env X.xe) (hc : ST K X c t ft) (hb : SSs K X body ts fs) : SS K X (.While c body [] pos) (tWhile t ts) (dWhile ft fs) := ⟨ps_while hp hc.pe hb.pe, snd_while hc.sn hb.sn⟩
end
end DL
end

section
set_option Elab.async false
set_option linter.all false
set_option maxRecDepth 100000
set_option maxHeartbeats 1000000
/-! DLmore: further rules: a op b op' c; max; bit_length; tuples' sums and parts; tuple(x); lists lent for one expression. -/
namespace DL
open PySem PySem.Spec PyProof.Rows L2
section
variable {K : PySem.W.Frag}
theorem snd_chain {r r' : R2} {op op' : D → D → Option Rv} {ta tb tc : TE} {f g h : DE} (hp : Prim2 K r op) (hp' : Prim2 K r' op') (a : SndE K ta f) (b : SndE K tb g) (c : SndE K tc h) : SndE K (tChain r r' ta tb tc) (dChain op op' f g h) := by
  intro H0 M st σ F H z st' Q S e q
  obtain ⟨p, e1, e⟩ := bs e
  obtain ⟨w, e2, e⟩ := bs e
  obtain ⟨x, e3, e⟩ := bs e
  obtain ⟨y, e4, e⟩ := bs e
  obtain ⟨u, e5, e⟩ := bs e
  refine a H0 M st σ F H p.1 p.2 _ S e1 fun v F1 H1 S1 E1 f1 r1 => ?_
  refine b H0 M p.2 σ F1 H1 w.1 w.2 _ S1 e2 fun v2 F2 H2 S2 E2 f2 r2 => ?_
  refine hp F2 H2 v v2 x y u _ (look_ok S2 (r1.weak.ext S1 E2 f2) e3) (look_ok S2 r2.weak e4) e5 fun v' H' s n => ?_
  obtain ⟨S3, E3, r3⟩ := fin_new S2 (E1.trans E2) s n
  obtain ⟨_, E3', _⟩ := fin_new S2 Ext.refl s n
  match u, e, n, r3 with
  | .d (.bool false), e, n, r3 =>
    cases e
    have hv : v' = .bl false := by cases n; rfl
    subst hv
    exact ⟨false, rfl, q _ F2 H' S3 E3 (f1.trans f2) (.bl _)⟩
  | .d (.bool true), e, n, r3 =>
    have hv : v' = .bl true := by cases n; rfl
    subst hv
    obtain ⟨w3, e6, e⟩ := bs e
    obtain ⟨y2, e7, e⟩ := bs e
    obtain ⟨u2, e8, e⟩ := bs e
    obtain ⟨z2, e9, e⟩ := bs e
    cases e
    refine ⟨true, rfl, ?_⟩
    refine c H0 M w.2 σ F2 H' w3.1 w3.2 _ S3 e6 fun v3 F4 H4 S4 E4 f4 r4 => ?_
    refine hp' F4 H4 v2 v3 y2 u2 z Q (look_ok S4 ((r2.weak.ext S2 E3' trivial).ext S3 E4 f4) e7) (look_ok S4 r4.weak e8) e9 fun v4 H5 s5 n5 => ?_
    obtain ⟨S5, E5, r5⟩ := fin_new S4 (E3.trans E4) s5 n5
    exact q v4 F4 H5 S5 E5 trivial r5
  | .d .none, e, _, _ => cases e
  | .d (.int _), e, _, _ => cases e
  | .d (.str _), e, _, _ => cases e
  | .d (.list _), e, _, _ => cases e
  | .d (.tuple _), e, _, _ => cases e
  | .d (.dict _), e, _, _ => cases e
  | .tmp _, e, _, _ => cases e
  | .sl _, e, _, _ => cases e
theorem freeze_getD (st : DSt) (i : Nat) : (freeze st).getD i none = fz (st.getD i none) := by
  unfold freeze
  rw [List.getD_eq_getElem?_getD, List.getD_eq_getElem?_getD, List.getElem?_map]
  cases st[i]? with
  | none => rfl
  | some o => rfl
theorem fz_own {o : Option SV} {xs : List D} : fz o ≠ some (.own xs) := by
  rcases o with _ | o
  · exact fun h => by cases h
  · cases o <;> exact fun h => by cases h
theorem fz_lent {o : Option SV} {xs : List D} : fz o ≠ some (.lent xs) := by
  rcases o with _ | o
  · exact fun h => by cases h
  · cases o <;> exact fun h => by cases h
theorem freeze_own {st : DSt} {i : Nat} : ¬ IsOwn (freeze st) i := by
  rintro ⟨xs, h | h⟩
  · rw [freeze_getD] at h
    exact fz_own h
  · rw [freeze_getD] at h
    exact fz_lent h
theorem Sim.freeze {H0 : Hp} {M : Nat → Option Addr} {st : DSt} {σ : L2.St} {F : Addr → Prop} {H : Hp} (S : Sim K H0 M st σ F H) : Sim K (fun _ => none) (fun _ => none) (freeze st) σ (fun a => F a ∨ OwnAt st σ a) H where
  len := by
    unfold DL.freeze
    rw [List.length_map]
    exact S.len
  dat := fun i x h => by
    rw [freeze_getD] at h
    have up : ∀ {a : Addr} {xs : List V}, FL K F H a xs → FL K (fun a => F a ∨ OwnAt st σ a) H a xs := fun {a xs} h => by
      rcases h with ⟨f, h⟩ | h
      · exact .inl ⟨.inl f, h⟩
      · exact .inr h
    cases e : st.getD i none with
    | none => rw [e] at h; cases h
    | some o =>
      rw [e] at h
      cases o with
      | d y =>
        cases h
        obtain ⟨v, h1, h2⟩ := S.dat i x e
        exact ⟨v, h1, h2.mono (fun _ _ => up) fun _ _ z => z⟩
      | own xs =>
        cases h
        obtain ⟨p, vs, h1, h2, h3, _⟩ := S.own i xs e
        exact ⟨.ref p, h1, .lst (.inl ⟨.inr ⟨i, ⟨xs, .inl e⟩, h1⟩, h2⟩) (h3.mono (fun _ _ => up) fun _ _ z => z)⟩
      | lent xs =>
        cases h
        obtain ⟨p, vs, _, h1, h2, h3, _⟩ := S.lent i xs e
        exact ⟨.ref p, h1, .lst (.inl ⟨.inr ⟨i, ⟨xs, .inr e⟩, h1⟩, h2⟩) (h3.mono (fun _ _ => up) fun _ _ z => z)⟩
  own := fun i xs h => absurd ⟨xs, .inl h⟩ freeze_own
  lent := fun i xs h => absurd ⟨xs, .inr h⟩ freeze_own
  lentE := fun _ _ h => by cases h
  lent0 := fun _ _ h => by cases h
  inj := fun i _ _ h => absurd h freeze_own
  frz := fun a h => by
    rcases h with h | h
    · exact S.frz a h
    · exact (S.atOwn h).1
  base := fun _ _ h => by cases h
theorem freeze_same {st : DSt} {σ : L2.St} {F F' : Addr → Prop} {H H' : Hp} {st' : DSt} (E : Ext (freeze st) σ F H st' F' H') : Same H H' := fun b u h => E.keep b u h fun ⟨i, o, _⟩ => freeze_own o
theorem snd_borrow {t : TE} {f : DE} (a : SndE K t f) : SndE K t (dBorrow f) := by
  intro H0 M st σ F H r st' Q S e q
  obtain ⟨p, e1, e⟩ := bs e
  refine a _ _ (freeze st) σ _ H p.1 p.2 _ S.freeze e1 fun v F' H' S' E' f' r' => ?_
  have s := freeze_same E'
  rcases p with ⟨pr, ps⟩
  cases pr with
  | d x =>
    have e : (if atomD x = true then some (Rv.d x, st) else none) = some (r, st') := e
    by_cases c : atomD x = true
    · rw [if_pos c] at e
      cases e
      refine q v F H' (S.grow s) (.grow s) trivial ?_
      have r2 : Rp K F' H' v x := r'
      show Rp K F H' v x
      cases r2 with
      | non => exact .non
      | bl b => exact .bl b
      | int i => exact .int i
      | str z => exact .str z
      | lst _ _ => cases c
      | tup _ _ => cases c
      | dic _ => cases c
    · rw [if_neg c] at e
      cases e
  | tmp _ => cases e
  | sl _ => cases e
theorem snd_borrowT {t : TT} {f : DT} (a : SndT K t f) : SndT K t (dBorrowT f) := by
  intro H0 M st σ F H r st' Q S e q
  obtain ⟨p, e1, e⟩ := bs e
  cases e
  refine a _ _ (freeze st) σ _ H p.1 p.2 _ S.freeze e1 fun F' H' S' E' f' => ?_
  have s := freeze_same E'
  exact q F H' (S.grow s) (.grow s) trivial
def rMaxI : List V → Hp → VK → Prop := fun xs H Q => ∃ i j : Int, xs = [.int i, .int j] ∧ Q (.int (if j > i then j else i)) H
theorem call_maxI {X : Cx} (hc : X.calm = true) : CallR X (.builtin "max") rMaxI := call_max2 hc
theorem prim_max2 : PrimN K rMaxI bMax2 := by
  intro F H vs xs z Q a e q
  match xs, a, e with
  | [.int i, .int j], .cons a (.cons b .nil), e =>
    cases e
    have h1 := a.int
    have h2 := b.int
    subst h1 h2
    exact ⟨i, j, rfl, q _ H Same.rfl' (.int _)⟩
theorem snd_bits {t : TE} {f : DE} (a : SndE K t f) : SndE K (tBits t) (dOp1 opBits f) := by
  refine snd_op1 (r := fun x H1 Q => ∃ i, x = .int i ∧ Q (.int (Builtin.Int.intBits i : Nat)) H1) ?_ a
  intro F H v x z Q a e q
  cases x <;> try (cases e; done)
  cases e
  exact ⟨_, a.int, q _ H Same.rfl' (.int _)⟩
theorem prim_addT : Prim2 K (rCatA K) opAddT := by
  intro F H v w x y z Q a b e q
  cases x <;> cases y <;> try (cases e; done)
  rename_i i j
  have e : (if i.length + j.length ≤ sizeLine then some (Rv.d (.tuple (i ++ j))) else none) = some z := e
  by_cases c : i.length + j.length ≤ sizeLine
  · rw [if_pos c] at e
    cases e
    obtain ⟨p, vs, rfl, h1, r1⟩ := a.tup
    obtain ⟨p2, vs2, rfl, h2, r2⟩ := b.tup
    refine ⟨p, p2, vs, vs2, rfl, rfl, h1, h2, by rw [r1.length, r2.length]; exact c, fun hz => ?_, fun h0 hz => ?_, fun _ _ p hp => ?_⟩
    · subst hz
      cases r1
      exact q _ H Same.rfl' (.tup h2 r2)
    · subst hz
      cases r2
      refine q _ H Same.rfl' ?_
      show Rp K F H _ (.tuple (i ++ []))
      rw [List.append_nil]
      exact .tup h1 r1
    · exact q _ _ (same_upd hp) (.tup (SqT.of upd_same) ((r1.append r2).grow (same_upd hp)))
  · rw [if_neg c] at e
    cases e
theorem cutV_whole {xs : List V} {lo hi : Option Int} (h : HT.sIx xs.length 0 lo = 0 ∧ HT.sIx xs.length xs.length hi = xs.length) : cutV xs lo hi = xs := by
  unfold cutV
  rw [h.1, h.2]
  simp
theorem prim_sliceT : PrimS K (rSlA K) opSliceT := by
  intro F H v x lo hi z Q a e q
  cases x <;> try (cases e; done)
  rename_i ys
  cases e
  obtain ⟨p, vs, rfl, h1, r1⟩ := a.tup
  have r2 : RpAll K F H (cutV vs lo hi) (cutD ys lo hi) := by
    unfold cutV cutD
    rw [r1.length]
    exact (r1.drop _).take _
  refine ⟨p, vs, rfl, h1, fun hw => ?_, fun hw p hp => ?_⟩
  · rw [cutV_whole hw] at r2
    exact q _ H Same.rfl' (.tup h1 r2)
  · exact q _ _ (same_upd hp) (.tup (SqT.of upd_same) (r2.grow (same_upd hp)))
def CPowW (i j : Int) : Prop := 0 ≤ j ∧ (Builtin.Int.intBits i : Int) * j ≤ 2 ^ 27
theorem op_powW {X : Cx} : OpR X (binaryOp .Pow) (rI CPowW fun i j => .int (i ^ j.toNat)) := opI fun _ _ _ _ _ _ _ hc q => pow_int hc.1 hc.2 q
theorem prim_powW : Prim2 K (rI CPowW fun i j => .int (i ^ j.toNat)) opPowW := by
  intro F H v w x y z Q a b e q
  cases x <;> cases y <;> try (cases e; done)
  rename_i i j
  have e : (if 0 ≤ j ∧ (Builtin.Int.intBits i : Int) * j ≤ 2 ^ 27 then some (Rv.d (.int (i ^ j.toNat))) else none) = some z := e
  by_cases c : 0 ≤ j ∧ (Builtin.Int.intBits i : Int) * j ≤ 2 ^ 27
  · rw [if_pos c] at e
    cases e
    exact ⟨_, _, a.int, b.int, c, q _ H Same.rfl' (.int _)⟩
  · rw [if_neg c] at e
    cases e
def tIfT (t u w : TT) : TT := fun σ H Q => t σ H fun d H1 => if d = true then u σ H1 Q else w σ H1 Q
theorem pt_ifExp {X : Cx} {c a b : Expr} {pos : Pos} {t u w : TT} (hc : PT X c t) (ha : PT X a u) (hb : PT X b w) : PT X (.IfExp c a b pos) (tIfT t u w) := by
  refine ⟨fun pins s σ H Q I h => ?_⟩
  refine PyProof.Rows.isTrue_IfExp (thn (hc.run pins s σ H _ I h) fun d s1 ⟨H1, I1, q1⟩ => ?_)
  cases d with
  | true => exact ha.run pins s1 σ H1 Q I1 q1
  | false => exact hb.run pins s1 σ H1 Q I1 q1
theorem snd_ifT {t u w : TT} {c f g : DT} (a : SndT K t c) (b : SndT K u f) (d : SndT K w g) : SndT K (tIfT t u w) (dIfT c f g) := by
  intro H0 M st σ F H k st' Q S e q
  obtain ⟨p, e1, e⟩ := bs e
  refine a H0 M st σ F H p.1 p.2 _ S e1 fun F1 H1 S1 E1 f1 => ?_
  by_cases h : p.1 = true
  · rw [if_pos h] at e
    rw [if_pos h]
    exact b H0 M p.2 σ F1 H1 k st' _ S1 e fun F2 H2 S2 E2 f2 => q F2 H2 S2 (E1.trans E2) (f1.trans f2)
  · rw [if_neg h] at e
    rw [if_neg h]
    exact d H0 M p.2 σ F1 H1 k st' _ S1 e fun F2 H2 S2 E2 f2 => q F2 H2 S2 (E1.trans E2) (f1.trans f2)
theorem snd_asgO {i j : Nat} (hij : i ≠ j) {ta tb : TE} {f g : DE} (a : SndE K ta f) (b : SndE K tb g) :
    SndS K (tAsg (tTup (tCons ta (tCons tb tNil))) (L2.gTup K 2 (L2.gCons (L2.gName i) (L2.gCons (L2.gName j) L2.gNil)))) (dAsgO i j f g) := by
  intro H0 M st σ F H fl st' E S e q
  obtain ⟨p, e1, e⟩ := bs e
  obtain ⟨w, e2, e⟩ := bs e
  refine a H0 M st σ F H p.1 p.2 _ S e1 fun v1 F1 H1 S1 E1 f1 r1 => ?_
  refine b H0 M p.2 σ F1 H1 w.1 w.2 _ S1 e2 fun v2 F2 H2 S2 E2 f2 r2 => ?_
  refine ⟨by rw [sizeLine_eq]; simp, fun T hT => ⟨T, [v1, v2], rfl, SqT.of upd_same, rfl, v1, [v2], rfl, v2, [], rfl, ?_⟩⟩
  have same := same_upd (o := HO.tup [v1, v2]) hT
  rcases p with ⟨p1, ps⟩
  rcases w with ⟨w1, ws⟩
  match p1, w1, e, r1, r2 with
  | .d x, .tmp ys, e, r1, r2 =>
    have e : ((setS ws j (.own ys)).bind fun s => (setS s i (.d x)).bind fun s' => some (Fl.nx, s')) = some (fl, st') := e
    obtain ⟨s, e3, e⟩ := bs e
    obtain ⟨s2, e4, e⟩ := bs e
    cases e
    obtain ⟨hj, nl, rfl⟩ := setS_ok e3
    obtain ⟨hi, nl2, rfl⟩ := setS_ok e4
    obtain ⟨pa, vs, rfl, hb, hc, nf, no, h0⟩ := r2
    have S3 := S2.grow same
    have S4 := S3.setOwn hj nl (same _ _ hb) (hc.grow same) nf no (S1.fresh0 h0)
    have rp : Rp K F2 H2 v1 x := E2.rp S1 r1
    have S5 := S4.setD hi nl2 (rp.grow same)
    have E3 : Ext st σ F H ws F2 _ := (E1.trans E2).trans (.grow same)
    have := q _ F2 _ S5 (E3.fext S S3)
    rw [List.set_comm _ _ (Ne.symm hij)] at this
    exact ⟨rfl, this⟩
  | .tmp _, _, e, _, _ => cases e
  | .sl _, _, e, _, _ => cases e
  | .d _, .d _, e, _, _ => cases e
  | .d _, .sl _, e, _, _ => cases e
def rTupleC (K : PySem.W.Frag) : List V → Hp → VK → Prop := fun vs H Q => ∃ x, vs = [x] ∧ kTup K x H Q
theorem call_tupleC {X : Cx} : CallR X (.type "tuple") (rTupleC X.K) := by
  intro pins s σ H xs us Q I r h
  obtain ⟨x, rfl, q⟩ := h
  cases r with
  | cons r rr =>
    cases rr
    exact rl_tuple pins s σ H x _ Q I r q
theorem prim_tuple : PrimN K (rTupleC K) bTuple := by
  intro F H vs xs z Q a e q
  match xs, a, e with
  | [.list ys], .cons a .nil, e =>
    cases e
    obtain ⟨p, vs, rfl, h1, r1⟩ := a.list
    exact ⟨_, rfl, .inl ⟨p, vs, rfl, h1, fun p hp => q _ _ (same_upd hp) (.tup (SqT.of upd_same) (r1.grow (same_upd hp)))⟩⟩
  | [.tuple ys], .cons a .nil, e =>
    cases e
    obtain ⟨p, vs, rfl, h1, r1⟩ := a.tup
    exact ⟨_, rfl, .inr ⟨p, vs, rfl, h1, q _ H Same.rfl' (.tup h1 r1)⟩⟩
theorem snd_dict0 : SndE K tDNewK dDict0 := by
  intro H0 M st σ F H r st' Q S e q
  cases e
  intro p hp
  have same := same_upd (o := HO.dK []) hp
  exact q (.ref p) F _ (S.grow same) (.grow same) trivial (show Rp K F _ (.ref p) (.dict []) from .dic upd_same)
theorem maxOf_ok : ∀ {is : List Int} {m : Int}, maxOf is = some m → m ∈ is ∧ ∀ y ∈ is, y ≤ m
  | [], m, h => by cases h
  | x :: r, m, h => by
    unfold maxOf at h
    cases e : maxOf r with
    | none =>
      rw [e] at h
      cases h
      cases r with
      | nil => simp
      | cons a b => unfold maxOf at e; cases e
    | some k =>
      rw [e] at h
      obtain ⟨h1, h2⟩ := maxOf_ok e
      have h : (if x > k then x else k) = m := Option.some.inj h
      by_cases c : x > k
      · rw [if_pos c] at h
        subst h
        refine ⟨by simp, fun y hy => ?_⟩
        rcases List.mem_cons.mp hy with rfl | hy
        · omega
        · have := h2 y hy
          omega
      · rw [if_neg c] at h
        subst h
        refine ⟨by simp [h1], fun y hy => ?_⟩
        rcases List.mem_cons.mp hy with rfl | hy
        · omega
        · exact h2 y hy
theorem minOf_ok : ∀ {is : List Int} {m : Int}, minOf is = some m → m ∈ is ∧ ∀ y ∈ is, m ≤ y
  | [], m, h => by cases h
  | x :: r, m, h => by
    unfold minOf at h
    cases e : minOf r with
    | none =>
      rw [e] at h
      cases h
      cases r with
      | nil => simp
      | cons a b => unfold minOf at e; cases e
    | some k =>
      rw [e] at h
      obtain ⟨h1, h2⟩ := minOf_ok e
      have h : (if x < k then x else k) = m := Option.some.inj h
      by_cases c : x < k
      · rw [if_pos c] at h
        subst h
        refine ⟨by simp, fun y hy => ?_⟩
        rcases List.mem_cons.mp hy with rfl | hy
        · omega
        · have := h2 y hy
          omega
      · rw [if_neg c] at h
        subst h
        refine ⟨by simp [h1], fun y hy => ?_⟩
        rcases List.mem_cons.mp hy with rfl | hy
        · omega
        · exact h2 y hy
theorem prim_maxL : PrimN K (rMax K) bMaxL := by
  intro F H vs xs z Q a e q
  match xs, a, e with
  | [.list ys], a, e =>
    obtain ⟨is, e1, e⟩ := bs e
    obtain ⟨m, e2, e⟩ := bs e
    cases e
    obtain ⟨v, rfl, a'⟩ := a.one
    obtain ⟨p, ws, rfl, h1, r1⟩ := a'.list
    obtain ⟨m1, m2⟩ := maxOf_ok e2
    rw [ints_ok r1 e1] at h1
    refine ⟨p, is, rfl, h1, List.length_pos_of_mem m1, fun k k1 k2 => ?_⟩
    have : k = m := by
      have := k2 m m1
      have := m2 k k1
      omega
    subst this
    exact q _ H Same.rfl' (.int _)
theorem prim_minL : PrimN K (rMin K) bMinL := by
  intro F H vs xs z Q a e q
  match xs, a, e with
  | [.list ys], a, e =>
    obtain ⟨is, e1, e⟩ := bs e
    obtain ⟨m, e2, e⟩ := bs e
    cases e
    obtain ⟨v, rfl, a'⟩ := a.one
    obtain ⟨p, ws, rfl, h1, r1⟩ := a'.list
    obtain ⟨m1, m2⟩ := minOf_ok e2
    rw [ints_ok r1 e1] at h1
    refine ⟨p, is, rfl, h1, List.length_pos_of_mem m1, fun k k1 k2 => ?_⟩
    have : k = m := by
      have := k2 m m1
      have := m2 k k1
      omega
    subst this
    exact q _ H Same.rfl' (.int _)
theorem lentP_one {p : Addr} {xs : List D} {vs : List V} {as : List D} {i : Nat} {q : Addr} (h : lentP (.ref p :: vs) (Ar.m xs :: as.map Ar.d) i = some q) : i = 0 ∧ q = p := by
  cases i with
  | zero => cases h; exact ⟨rfl, rfl⟩
  | succ i =>
    have h : lentP vs (as.map Ar.d) i = some q := h
    rw [lentP_d] at h
    cases h
/-- f(e, ..), the first argument a new list that is lent -/
theorem snd_callT {g : Fn} {n l : Nat} {dvs : List V} {more : List PyData} {E : XK} {te : TE} {t : TA} {f : DE} {h : DA} (hd : ∀ (F : Addr → Prop) (H : Hp), RpAll K F H dvs more) (hn : n + 1 + more.length = l) (a : SndE K te f) (b : SndA K t h) :
    SndE K (tCall (spD K l g) dvs E (tCons te t)) (dCallT g n more f h) := by
  intro H0 M st σ F H r st' Q S e q
  obtain ⟨⟨p0, s1⟩, e1, e⟩ := bs e
  match p0, e1, e with
  | .tmp xs, e1, e =>
    obtain ⟨⟨rs, s2⟩, e2, e⟩ := bs e
    obtain ⟨⟨ds, s3⟩, e3, e⟩ := bs e
    refine a H0 M st σ F H (.tmp xs) s1 _ S e1 fun v F1 H1 S1 E1 f1 r1 => ?_
    refine b H0 M s1 σ F1 H1 rs s2 _ S1 e2 fun vs F2 H2 S2 E2 f2 r2 => ?_
    by_cases c : rs.length = n
    · rw [if_pos c] at e
      obtain ⟨⟨rt, outs⟩, e4, e⟩ := bs e
      cases e
      obtain ⟨p, ws, rfl, hp, hr, nf, no, h0⟩ := r1
      obtain ⟨F3, S3, E3, rr, _⟩ := toDs_ok S2 E2 r2 e3
      have nf3 : ¬ F3 p := fun z => by
        rcases E3.new p z with z | z | z
        · exact nf z
        · rw [hp] at z; cases z
        · exact no z
      have hp3 : H2 p = some (.lst ws) := E3.keep _ _ hp no
      have hr3 : RpAll K F3 H2 ws xs := E3.rpAll S1 hr
      have no3 : ¬ OwnAt s3 σ p := fun z => no (z.imp E3.own)
      have h00 : H0 p = none := S.fresh0 h0
      refine ⟨F3, .m xs :: (ds ++ more).map Ar.d, rt, outs, ?_, .cons ⟨p, ws, rfl, hp3, hr3, nf3⟩ (arD (rr.append (hd F3 H2))), S3.frz, fun i j p1 h h' => by rw [(lentP_one h).1, (lentP_one h').1], e4, fun v F' H' g1 g2 g3 g4 g5 g6 g7 g8 g9 => ?_⟩
      · have l1 : vs.length = n := by rw [← r2.length]; exact c
        show (V.ref p :: (vs ++ dvs)).length = l
        rw [List.length_cons, List.length_append, l1, ← constD hd]
        omega
      have keep : ∀ b u, H2 b = some u → b ≠ p → H' b = some u := fun b u hb ne => g4 b u hb fun i z => ne (lentP_one z).2
      obtain ⟨so, _, o2⟩ := g6
      obtain ⟨zs, us, _, hp', _⟩ := o2 0 p rfl
      have notp : ∀ {q}, OwnAt s3 σ q → q ≠ p := fun {q} o z => no3 (z ▸ o)
      have S4 : Sim K H0 M s3 σ F' H' := by
        refine ⟨S3.len, fun j x h => ?_, fun j x h => ?_, fun j x h => ?_, S3.lentE, S3.lent0, S3.inj, g3, fun b u h n => ?_⟩
        · obtain ⟨w, a1, a2⟩ := S3.dat j x h
          exact ⟨w, a1, a2.mono g7 g8⟩
        · obtain ⟨p1, w1, a1, a2, a3, a4, a5⟩ := S3.own j x h
          have ne := notp ⟨j, ⟨x, .inl h⟩, a1⟩
          refine ⟨p1, w1, a1, keep _ _ a2 ne, a3.mono g7 g8, fun z => ?_, a5⟩
          rcases g2 _ z with z | z
          · exact a4 z
          · rw [a2] at z; cases z
        · obtain ⟨p1, w1, m, a1, a2, a3, a4⟩ := S3.lent j x h
          have ne := notp ⟨j, ⟨x, .inr h⟩, a1⟩
          refine ⟨p1, w1, m, a1, keep _ _ a2 ne, a3.mono g7 g8, fun z => ?_⟩
          rcases g2 _ z with z | z
          · exact a4 z
          · rw [a2] at z; cases z
        · refine keep _ _ (S3.base b u h n) fun z => ?_
          subst z
          rw [h00] at h
          cases h
      have E5 := E1.trans E3
      have E4 : Ext st σ F H s3 F' H' := by
        refine ⟨fun a h => g1 a (E5.sub a h), fun a h => ?_, fun b u h n => ?_, fun b h => ?_, E5.own⟩
        · rcases g2 a h with z | z
          · exact E5.new a z
          · refine .inr (.inl (Classical.byContradiction fun y => E5.live a y z))
        · refine keep b u (E5.keep b u h n) fun z => ?_
          subst z
          rw [h0] at h
          cases h
        · by_cases z : b = p
          · subst z
            rw [hp']
            exact fun z => by cases z
          · cases y : H2 b with
            | none => exact absurd y (E5.live b h)
            | some u =>
              rw [keep b u y z]
              exact fun z => by cases z
      refine q v F' H' S4 E4 trivial ?_
      cases rt with
      | d x => exact g9
      | own xs =>
        obtain ⟨p1, w1, a1, a2, a3, a4, a5⟩ := g9
        refine ⟨p1, w1, a1, a2, a3, a4, fun z => ?_, Classical.byContradiction fun z => E5.live p1 z a5⟩
        obtain ⟨⟨ys, h⟩, _⟩ := S3.atOwn z
        rw [a5] at h
        cases h
    · rw [if_neg c] at e
      cases e
  | .d _, _, e => cases e
  | .sl _, _, e => cases e
/-- ys, x = e, e2 and ys, x, y = e, e2, e3: ys becomes one's own -/
theorem parS_core {i : Nat} {is : List Nat} {te : TE} {t : TA} {f : DE} {h : DA} (a : SndE K te f) (b : SndA K t h) {H0 : Hp} {M : Nat → Option Addr} {st : DSt} {σ : L2.St} {F : Addr → Prop} {H : Hp} {fl : Fl} {st' : DSt} {E : Ends} (S : Sim K H0 M st σ F H) (e : dParS i is f h st = some (fl, st')) (q : FlOk K H0 M F H st' E fl)
    {R : List V → Hp → Prop} (fin : ∀ v vs σ' H', vs.length = is.length → σ' = (is.zip vs).foldl (fun s x => s.set x.1 (some x.2)) (σ.set i (some v)) → E.nx σ' H' → R (v :: vs) H') : tCons te t σ H R := by
  obtain ⟨⟨p0, s1⟩, e1, e⟩ := bs e
  match p0, e1, e with
  | .tmp xs, e1, e =>
    obtain ⟨⟨rs, s2⟩, e2, e⟩ := bs e
    obtain ⟨⟨ds, s3⟩, e3, e⟩ := bs e
    obtain ⟨s4, e4, e⟩ := bs e
    obtain ⟨s5, e5, e⟩ := bs e
    cases e
    refine a H0 M st σ F H (.tmp xs) s1 _ S e1 fun v F1 H1 S1 E1 f1 r1 => ?_
    refine b H0 M s1 σ F1 H1 rs s2 _ S1 e2 fun vs F2 H2 S2 E2 f2 r2 => ?_
    obtain ⟨p, ws, rfl, hp, hr, nf, no, h0⟩ := r1
    obtain ⟨F3, S3, E3, rr, _⟩ := toDs_ok S2 E2 r2 e3
    have nf3 : ¬ F3 p := fun z => by
      rcases E3.new p z with z | z | z
      · exact nf z
      · rw [hp] at z; cases z
      · exact no z
    have no3 : ¬ OwnAt s3 σ p := fun z => no (z.imp E3.own)
    obtain ⟨hi, nl, rfl⟩ := setS_ok e4
    have S4 := S3.setOwn hi nl (E3.keep _ _ hp no) (E3.rpAll S1 hr) nf3 no3 (S.fresh0 h0)
    have fe := (E1.trans E3).fext S S3
    have go : ∀ (js : List Nat) (us : List V) (ys : List D) (sa : DSt) (σa : L2.St), RpAll K F3 H2 us ys → Sim K H0 M sa σa F3 H2 → dPar.parGo js ys sa = some st' → us.length = js.length ∧ Sim K H0 M st' ((js.zip us).foldl (fun s x => s.set x.1 (some x.2)) σa) F3 H2 := by
      intro js
      induction js with
      | nil =>
        intro us ys sa σa r s e
        cases r with
        | nil => cases e; exact ⟨rfl, s⟩
        | cons _ _ => cases e
      | cons j js ih =>
        intro us ys sa σa r s e
        cases r with
        | nil => cases e
        | cons r1 r2 =>
          obtain ⟨sb, e6, e7⟩ := bs e
          obtain ⟨hj, nl2, rfl⟩ := setS_ok e6
          obtain ⟨l, z⟩ := ih _ _ _ _ r2 (s.setD hj nl2 r1) e7
          exact ⟨congrArg (· + 1) l, z⟩
    obtain ⟨l, S5⟩ := go is vs ds _ _ rr S4 e5
    exact fin _ _ _ _ l rfl (q _ F3 H2 S5 fe)
  | .d _, _, e => cases e
  | .sl _, _, e => cases e
theorem snd_parS2 {i j : Nat} {te : TE} {t : TA} {f : DE} {h : DA} (a : SndE K te f) (b : SndA K t h) : SndS K (tPar i j (tCons te t)) (dParS i [j] f h) := by
  intro H0 M st σ F H fl st' E S e q
  have hfl : fl = .nx := by
    obtain ⟨⟨p0, s1⟩, e1, e⟩ := bs e
    match p0, e1, e with
    | .tmp xs, e1, e =>
      obtain ⟨_, _, e⟩ := bs e
      obtain ⟨_, _, e⟩ := bs e
      obtain ⟨_, _, e⟩ := bs e
      obtain ⟨_, _, e⟩ := bs e
      cases e
      rfl
    | .d _, _, e => cases e
    | .sl _, _, e => cases e
  subst hfl
  refine parS_core a b S e q fun v vs σ' H' l es z => ?_
  match vs, l, es with
  | [w], _, es =>
    subst es
    exact ⟨v, w, rfl, z⟩
theorem snd_parS3 {i j k : Nat} {te : TE} {t : TA} {f : DE} {h : DA} (a : SndE K te f) (b : SndA K t h) : SndS K (tPar3 i j k (tCons te t)) (dParS i [j, k] f h) := by
  intro H0 M st σ F H fl st' E S e q
  have hfl : fl = .nx := by
    obtain ⟨⟨p0, s1⟩, e1, e⟩ := bs e
    match p0, e1, e with
    | .tmp xs, e1, e =>
      obtain ⟨_, _, e⟩ := bs e
      obtain ⟨_, _, e⟩ := bs e
      obtain ⟨_, _, e⟩ := bs e
      obtain ⟨_, _, e⟩ := bs e
      cases e
      rfl
    | .d _, _, e => cases e
    | .sl _, _, e => cases e
  subst hfl
  refine parS_core a b S e q fun v vs σ' H' l es z => ?_
  match vs, l, es with
  | [w, u], _, es =>
    subst es
    exact ⟨v, w, u, rfl, z⟩
end
/-! rules -/
section
variable {K : PySem.W.Frag} {X : Cx} {a b c e o : Expr} {es : List Expr} {ta tb tc : TE} {f g h : DE} {pos p apos : Pos} {x : Str}
theorem se_chain {op op' : CmpOp} {r r' : R2} {o o' : D → D → Option Rv} (hp : Prim2 K r o) (ho : OpR X (compareOp op) r) (hp' : Prim2 K r' o') (ho' : OpR X (compareOp op') r') (ha : SE K X a ta f) (hb : SE K X b tb g) (hc : SE K X c tc h)
    (hm : lastMarks [op, op'] [b, c] = false := by with_unfolding_all rfl) : SE K X (.Compare a [op, op'] [b, c] pos) (tChain r r' ta tb tc) (dChain o o' f g h) := ⟨pe_chain ho ho' ha.pe hb.pe hc.pe hm, snd_chain hp hp' ha.sn hb.sn hc.sn⟩
theorem st_chain {op op' : CmpOp} {r r' : R2} {o o' : D → D → Option Rv} (hp : Prim2 K r o) (ho : OpR X (compareOp op) r) (hp' : Prim2 K r' o') (ho' : OpR X (compareOp op') r') (ha : SE K X a ta f) (hb : SE K X b tb g) (hc : SE K X c tc h)
    (hm : lastMarks [op, op'] [b, c] = false := by with_unfolding_all rfl) : ST K X (.Compare a [op, op'] [b, c] pos) (tTest (tChain r r' ta tb tc)) (dTest (dChain o o' f g h)) := ⟨pt_chain ho ho' ha.pe hb.pe hc.pe hm, snd_testC (snd_chain hp hp' ha.sn hb.sn hc.sn)⟩
theorem se_powW (ha : SE K X a ta f) (hb : SE K X b tb g) : SE K X (.BinOp a .Pow b pos) (tOp (rI CPowW fun i j => .int (i ^ j.toNat)) ta tb) (dOp2 opPowW f g) := se_op prim_powW op_powW ha hb
theorem st_if {t u w : TT} {dt du dw : DT} (hc : ST K X c t dt) (ha : ST K X a u du) (hb : ST K X b w dw) : ST K X (.IfExp c a b pos) (tIfT t u w) (dIfT dt du dw) := ⟨pt_ifExp hc.pe ha.pe hb.pe, snd_ifT hc.sn ha.sn hb.sn⟩
theorem se_borrow (ha : SE K X a ta f) : SE K X a ta (dBorrow f) := ⟨ha.pe, snd_borrow ha.sn⟩
theorem st_borrow {t : TT} {ft : DT} (ha : ST K X a t ft) : ST K X a t (dBorrowT ft) := ⟨ha.pe, snd_borrowT ha.sn⟩
theorem se_bits (ha : SE K X o ta f) (hbase : attributeBase o "bit_length" X.env (eval o X.env) = eval o X.env := by rfl) (hline : (apos.endLine == pos.line) = true := by rfl) : SE K X (.Call (.Attribute o "bit_length" apos) [] [] pos) (tBits ta) (dOp1 opBits f) := ⟨pe_bits ha.pe hbase hline, snd_bits ha.sn⟩
theorem se_addT (ha : SE K X a ta f) (hb : SE K X b tb g) (hK : X.K = K := by rfl) : SE K X (.BinOp a .Add b pos) (tOp (rCatA K) ta tb) (dOp2 opAddT f g) := by
  subst hK
  exact se_op prim_addT op_catA ha hb
theorem se_sliceT {lo hi : Option Expr} {p2 : Pos} {tl th : TO} {fl fh : DO} (ha : SE K X a ta f) (hl : SO K X lo tl fl) (hh : SO K X hi th fh) (hK : X.K = K := by rfl) : SE K X (.Subscript a (.Slice lo hi none p2) pos) (tSl (rSlA K) ta tl th) (dSlice opSliceT f fl fh) := by
  subst hK
  exact ⟨pe_slice sl_tupA ha.pe hl.pe hh.pe, snd_slice prim_sliceT ha.sn hl.sn hh.sn⟩
theorem ss_asgO {i j k2 : Nat} {tg : Expr} {pt2 : Pos} {dv : DE} {is : List Nat} {dg : DG} (hij : i ≠ j) (ha : SE K X a ta f) (hb : SE K X b tb g) (he : SE K X (.Tuple [a, b] k2 pt2) (tTup (tCons ta (tCons tb tNil))) dv) (hg : SG K X tg is (L2.gTup K 2 (L2.gCons (L2.gName i) (L2.gCons (L2.gName j) L2.gNil))) dg)
    (hs : swapsWithSole [tg] (.Tuple [a, b] k2 pt2) pos.line X.env = pure false := by rfl) (hw : swappedStores [tg] (.Tuple [a, b] k2 pt2) X.env = pure none := by rfl) (h1 : (assignEach [tg] X.env).map (·.2) = [assign tg X.env] := by rfl) :
    SS K X (.Assign [tg] (.Tuple [a, b] k2 pt2) pos) (tAsg (tTup (tCons ta (tCons tb tNil))) (L2.gTup K 2 (L2.gCons (L2.gName i) (L2.gCons (L2.gName j) L2.gNil)))) (dAsgO i j f g) := ⟨ps_asg he.pe hg.pe hs hw h1, snd_asgO hij ha.sn hb.sn⟩
theorem se_dict0 : SE K X (.Dict [] [] pos) tDNewK dDict0 := ⟨pe_dnewK, snd_dict0⟩
theorem se_callT {lv n l : Nat} {fa : Addr} {fd : FuncData} {ps : List Str} {G : Fn} {ds : List Value} {dvs : List V} {more : List PyData} {tr : TA} {fr : DA} (F : FnG X.prog X.w X.K X.mg X.base CX0 lv fa fd ps (spD K l G)) (hr : Room lv X.A) (gd : X.A.guards = some []) (hg : Gl X x) (hm : X.mg x = some (.ref fa)) (kp : PySem.W.keepIn X.K (.ref fa) = true) (hb : Binds X.K fd ps ds) (hd : Vals dvs ds)
    (hdd : ∀ (F : Addr → Prop) (H : Hp), RpAll K F H dvs more) (hn : n + 1 + more.length = l) (ha : SE K X e ta f) (hes : SA K X es tr fr) (h1 : (x == ("__debug__" : Str)) = false := by decide) (h2 : starEach (e :: es) X.env = (false, eval e X.env) :: starEach es X.env := by rfl) (h3 : (backTo pos (starEach es X.env)).any (·.1) = false := by rfl) (hK : X.K = K := by rfl) :
    SE K X (.Call (.Name x p) (e :: es) [] pos) (tCall (spD K l G) dvs E0 (tCons ta tr)) (dCallT G n more f fr) := by
  subst hK
  exact ⟨pe_callG F hr gd hg hm kp hb hd pass0 (sa_cons ha hes h2).pe h1 h2 h3, snd_callT hdd hn ha.sn hes.sn⟩
theorem ss_parS2 (i j : Nat) {y : Str} {px py pt : Pos} {kt k2 pt2} {tr : TA} {fr : DA} (hc : X.calm = true) (hN : X.N.Nodup) (hi : X.N[i]? = some x) (hj : X.N[j]? = some y) (hij : i ≠ j) (hx : X.env.scope.names.lookup x = some .local) (hy : X.env.scope.names.lookup y = some .local) (ha : SE K X a ta f) (hb : SA K X [b] tr fr)
    (hw : swappedStores [.Tuple [.Name x px, .Name y py] kt pt] (.Tuple [a, b] k2 pt2) X.env = pure (some [x, y])) (h2 : starEach (a :: [b]) X.env = (false, eval a X.env) :: starEach [b] X.env := by rfl) (hs : swapsWithSole [.Tuple [.Name x px, .Name y py] kt pt] (.Tuple [a, b] k2 pt2) pos.line X.env = pure false := by rfl) :
    SS K X (.Assign [.Tuple [.Name x px, .Name y py] kt pt] (.Tuple [a, b] k2 pt2) pos) (tPar i j (tCons ta tr)) (dParS i [j] f fr) := ⟨ps_par hc hN hi hj hij hx hy (sa_cons ha hb h2).pe hw hs, snd_parS2 ha.sn hb.sn⟩
theorem ss_parS3 (i j l : Nat) {y z : Str} {px py pz pt : Pos} {kt k2 pt2} {tr : TA} {fr : DA} (hc : X.calm = true) (hN : X.N.Nodup) (hi : X.N[i]? = some x) (hj : X.N[j]? = some y) (hl : X.N[l]? = some z) (hij : i ≠ j) (hil : i ≠ l) (hjl : j ≠ l) (hx : X.env.scope.names.lookup x = some .local) (hy : X.env.scope.names.lookup y = some .local) (hz : X.env.scope.names.lookup z = some .local) (ha : SE K X a ta f) (hb : SA K X [b, c] tr fr)
    (hw : swappedStores [.Tuple [.Name x px, .Name y py, .Name z pz] kt pt] (.Tuple [a, b, c] k2 pt2) X.env = pure (some [x, y, z])) (h2 : starEach (a :: [b, c]) X.env = (false, eval a X.env) :: starEach [b, c] X.env := by rfl) (hs : swapsWithSole [.Tuple [.Name x px, .Name y py, .Name z pz] kt pt] (.Tuple [a, b, c] k2 pt2) pos.line X.env = pure false := by rfl) :
    SS K X (.Assign [.Tuple [.Name x px, .Name y py, .Name z pz] kt pt] (.Tuple [a, b, c] k2 pt2) pos) (tPar3 i j l (tCons ta tr)) (dParS i [j, l] f fr) := ⟨ps_par3 hc hN hi hj hl hij hil hjl hx hy hz (sa_cons ha hb h2).pe hw hs, snd_parS3 ha.sn hb.sn⟩
end
end DL
end

section
set_option Elab.async false
set_option linter.all false
set_option maxRecDepth 100000
set_option maxHeartbeats 1000000
/-! DLsort: sorted of data; in; min. -/
namespace DL
open PySem PySem.Spec PyProof.Rows L2
section
variable {X : Cx} {pins : List (Addr × Obj)} {σ : L2.St} {H : Hp} {s : Shared}
def rSortedD (K : PySem.W.Frag) : List V → Hp → VK → Prop := fun vs H Q => ∃ (a : Addr) (xs : List V) (ds : List PyData), vs = [V.ref a] ∧ SqL K H a xs ∧ DpAll K H xs ds ∧ PySem.W.AllAlike ds ∧ PySem.W.Sortable ds ∧ (∀ d ∈ ds, d.depth ≤ 30) ∧
  ∀ p, H p = none → Q (.ref p) (upd H p (.lst (((xs.zip ds).mergeSort (PySem.W.dataLe false (fun b => b.2))).map (·.1))))
theorem zip_each {K : PySem.W.Frag} : ∀ {xs : List V} {its : List Value} {ds : List PyData}, Vals xs its → DpAll K H xs ds → PySem.W.EachIs (fun (v : Value) (b : V × PyData) => RelV b.1 v ∧ Dp K H b.1 b.2) its (xs.zip ds)
  | [], _, _, .nil, .nil => .nil
  | _ :: _, _, _, .cons r t, .cons d e => .cons ⟨r, d⟩ (zip_each t e)
theorem each_vals : ∀ {out : List Value} {bs : List (V × PyData)}, PySem.W.EachIs (fun (v : Value) (b : V × PyData) => RelV b.1 v ∧ True) out bs → Vals (bs.map (·.1)) out
  | _, _, .nil => .nil
  | _, _, .cons h t => .cons h.1 (each_vals t)
theorem dpAll_len {K : PySem.W.Frag} : ∀ {xs : List V} {ds : List PyData}, DpAll K H xs ds → xs.length = ds.length
  | _, _, .nil => rfl
  | _, _, .cons _ t => congrArg (· + 1) (dpAll_len t)
theorem cr_sortedD (hu : X.A.units + 64 < cLine) : CallR X (.builtin "sorted") (rSortedD X.K) := by
  intro pins s σ H vs us Q I r h
  obtain ⟨a, xs, ds, rfl, hs, hd, hal, hk, hdep, q⟩ := h
  obtain ⟨its, rv, hl, hz⟩ := I.list hs
  rw [Vals.ref1 r]
  have ez := zip_each rv hd
  have es : (xs.zip ds).map (fun b => b.2) = ds := List.map_snd_zip (by rw [dpAll_len hd]; exact Nat.le_refl _)
  have e : PySem.W.EachIs (fun (v : Value) (b : V × PyData) => RelV b.1 v ∧ True) its (xs.zip ds) := ez.mono fun _ _ h => ⟨h.1, trivial⟩
  have er : PySem.W.EachIs (fun (v : Value) (b : V × PyData) => ∃ as, Reads s.heap v b.2 as) its (xs.zip ds) := ez.mono fun _ _ h => Dp.reads I _ _ _ h.2 h.1
  have lz : (xs.zip ds).length ≤ sizeLine := by
    rw [List.length_zip, dpAll_len hd]
    have := dpAll_len hd
    omega
  refine PySem.W.sorted_data (enc := fun (b : V × PyData) => b.2) hl.isList e er (by rw [es]; exact hal) (by rw [es]; exact hk) lz (fun b hb => ?_) fun out ho eo => ?_
  · have := hdep b.2 (List.of_mem_zip hb).2
    omega
  · obtain ⟨n, hn⟩ := PyProof.Rows.sortedAll_at s.heap its out.toArray
    refine ⟨.ref (s.heap.objs.size + 1), upd H (s.heap.objs.size + 1) (.lst (((xs.zip ds).mergeSort (PySem.W.dataLe false (fun b => b.2))).map (·.1))), I.laid (t' := s.toks) (fun b o e => PyProof.Rows.sortedAll_old e) (Nat.le_succ _) ⟨?_, out, n, each_vals eo, hn⟩, rfl, q _ (I.hok.fresh (Nat.le_succ _))⟩
    rw [List.length_map, List.length_mergeSort]
    exact lz
end
section
variable {K : PySem.W.Frag}
theorem rpAll_of {F : Addr → Prop} {H : Hp} : ∀ {l : List (V × PyData)}, (∀ p ∈ l, Rp K F H p.1 p.2) → RpAll K F H (l.map (·.1)) (l.map (·.2))
  | [], _ => .nil
  | p :: r, h => .cons (h p List.mem_cons_self) (rpAll_of fun q hq => h q (List.mem_cons_of_mem _ hq))
theorem RpAll.zip {F : Addr → Prop} {H : Hp} : ∀ {vs : List V} {ds : List PyData}, RpAll K F H vs ds → ∀ p ∈ vs.zip ds, Rp K F H p.1 p.2
  | _, _, .nil, p, hp => by simp at hp
  | _, _, .cons a b, p, hp => by
    rw [List.zip_cons_cons] at hp
    rcases List.mem_cons.mp hp with rfl | hp
    · exact a
    · exact RpAll.zip b p hp
theorem noDict_all : ∀ {xs : List PyData}, (∀ d ∈ xs, d.hasDict = false) → PyData.hasDictAll xs = false
  | [], _ => rfl
  | x :: r, h => by
    simp only [PyData.hasDictAll, Bool.or_eq_false_iff]
    exact ⟨h x List.mem_cons_self, noDict_all fun d hd => h d (List.mem_cons_of_mem _ hd)⟩
theorem prim_sorted : PrimN K (rSortedD K) bSorted := by
  intro F H vs xs z Q a e q
  match xs, a, e with
  | [.list ys], a, e =>
    have e : (if sortable ys = true then some (Rv.tmp (sortD ys)) else none) = some z := e
    by_cases c : sortable ys = true
    · rw [if_pos c] at e
      cases e
      obtain ⟨v, rfl, a'⟩ := a.one
      obtain ⟨p, ws, rfl, h1, r1⟩ := a'.list
      simp only [sortable, Bool.and_eq_true, Bool.or_eq_true, List.all_eq_true, Bool.not_eq_true', decide_eq_true_eq] at c
      obtain ⟨⟨c1, c2⟩, c3⟩ := c
      have es : (ws.zip ys).map (·.2) = ys := List.map_snd_zip (by rw [r1.length]; exact Nat.le_refl _)
      refine ⟨p, ws, ys, rfl, h1, r1.dp (noDict_all fun d hd => (c3 d hd).1), fun d hd d' hd' => c1 d hd d' hd', ?_, fun d hd => (c3 d hd).2, fun l hl => ?_⟩
      · rcases c2 with c2 | c2
        · refine .inl fun d hd => ?_
          have := c2 d hd
          unfold headed at this
          split at this
          · exact ⟨_, _, rfl⟩
          · cases this
        · refine .inr fun d hd => ?_
          have := c2 d hd
          unfold other at this
          split at this
          · cases this
          · cases this
          · rename_i h2 h3
            exact ⟨h2, h3⟩
      · have rr : RpAll K F H (((ws.zip ys).mergeSort (PySem.W.dataLe false (fun b => b.2))).map (·.1)) (((ws.zip ys).mergeSort (PySem.W.dataLe false (fun b => b.2))).map (·.2)) := rpAll_of fun p hp => r1.zip p (List.mem_mergeSort.mp hp)
        have em : ((ws.zip ys).mergeSort (PySem.W.dataLe false (fun b => b.2))).map (·.2) = sortD ys := by
          unfold sortD
          rw [List.map_mergeSort (r := PySem.W.dataLe false (fun b : V × PyData => b.2)) (s := PySem.W.dataLe false id) (f := fun b : V × PyData => b.2) (l := ws.zip ys) (fun a _ b _ => rfl), es]
        rw [em] at rr
        obtain ⟨s, n⟩ := new_tmp hl rr
        exact q _ _ s n
    · rw [if_neg c] at e
      cases e
theorem atom_V {F : Addr → Prop} {H : Hp} {v : V} {x : PyData} (h : Rp K F H v x) (c : atomD x = true) : flatV v = true := by
  cases h <;> first | rfl | cases c
theorem atom_eq {F : Addr → Prop} {H : Hp} {v w : V} {x y : PyData} (h : Rp K F H v x) (h' : Rp K F H w y) (c : atomD x = true) (c' : atomD y = true) : eqV v w = PyData.eqv x y := by
  cases h <;> first | (cases c; done) | (cases h' <;> first | (cases c'; done) | simp [eqV, PyData.eqv])
theorem atoms_V {F : Addr → Prop} {H : Hp} : ∀ {vs : List V} {xs : List PyData}, RpAll K F H vs xs → xs.all atomD = true → vs.all flatV = true
  | _, _, .nil, _ => rfl
  | _, _, .cons a b, c => by
    rw [List.all_cons, Bool.and_eq_true] at c ⊢
    exact ⟨atom_V a c.1, atoms_V b c.2⟩
theorem atoms_in {F : Addr → Prop} {H : Hp} {w : V} {y : PyData} (h : Rp K F H w y) (c : atomD y = true) : ∀ {vs : List V} {xs : List PyData}, RpAll K F H vs xs → xs.all atomD = true → inV w vs = xs.any fun x => PyData.eqv x y
  | _, _, .nil, _ => rfl
  | _, _, .cons a b, d => by
    rw [List.all_cons, Bool.and_eq_true] at d
    have := atoms_in h c b d.2
    unfold inV at this ⊢
    rw [List.any_cons, List.any_cons, this, atom_eq a h d.1 c]
theorem Pk.atom {F : Addr → Prop} {H : Hp} {v : V} {x : PyData} (h : Pk K F H v x) (c : atomD x = true) : Rp K F H v x := by
  rcases h with k | ⟨_, _, _, _, k, _⟩
  · exact k
  · subst k
    cases c
theorem in_core {F : Addr → Prop} {H : Hp} {v w : V} {x y : PyData} {b : Bool} (a : Pk K F H v x) (a' : Pk K F H w y) (e : opInB x y = some b) : ∃ p xs, w = .ref p ∧ (SqL K H p xs ∨ SqT K H p xs) ∧ flatV v = true ∧ xs.all flatV = true ∧ inV v xs = b := by
  cases y with
  | list ys =>
    have e : (if atomD x = true ∧ ys.all atomD = true then some (ys.any fun y => PyData.eqv y x) else none) = some b := e
    by_cases c : atomD x = true ∧ ys.all atomD = true
    · rw [if_pos c] at e
      obtain ⟨p, ws, rfl, h1, r1⟩ := a'.list
      have ax := a.atom c.1
      exact ⟨p, ws, rfl, .inl h1, atom_V ax c.1, atoms_V r1 c.2, (atoms_in ax c.1 r1 c.2).trans (Option.some.inj e)⟩
    · rw [if_neg c] at e
      cases e
  | tuple ys =>
    have e : (if atomD x = true ∧ ys.all atomD = true then some (ys.any fun y => PyData.eqv y x) else none) = some b := e
    by_cases c : atomD x = true ∧ ys.all atomD = true
    · rw [if_pos c] at e
      obtain ⟨p, ws, rfl, h1, r1⟩ := a'.tup
      have ax := a.atom c.1
      exact ⟨p, ws, rfl, .inr h1, atom_V ax c.1, atoms_V r1 c.2, (atoms_in ax c.1 r1 c.2).trans (Option.some.inj e)⟩
    · rw [if_neg c] at e
      cases e
  | _ => cases e
theorem prim_inA : Prim2 K (rIn K false) opIn := by
  intro F H v w x y z Q a b e q
  obtain ⟨c, e1, e2⟩ := bs e
  cases e2
  obtain ⟨p, xs, h1, h2, h3, h4, h5⟩ := in_core a b e1
  refine ⟨p, xs, h1, h2, h3, h4, ?_⟩
  rw [if_neg (by decide), h5]
  exact q _ H Same.rfl' (.bl _)
theorem prim_notinA : Prim2 K (rIn K true) opNotIn := by
  intro F H v w x y z Q a b e q
  obtain ⟨c, e1, e2⟩ := bs e
  cases e2
  obtain ⟨p, xs, h1, h2, h3, h4, h5⟩ := in_core a b e1
  refine ⟨p, xs, h1, h2, h3, h4, ?_⟩
  rw [if_pos rfl, h5]
  exact q _ H Same.rfl' (.bl _)
def rMinI : List V → Hp → VK → Prop := fun xs H Q => ∃ i j : Int, xs = [.int i, .int j] ∧ Q (.int (if j < i then j else i)) H
theorem call_minI {X : Cx} (hc : X.calm = true) : CallR X (.builtin "min") rMinI := call_min2 hc
theorem prim_min2 : PrimN K rMinI bMin2 := by
  intro F H vs xs z Q a e q
  match xs, a, e with
  | [.int i, .int j], .cons a (.cons b .nil), e =>
    cases e
    have h1 := a.int
    have h2 := b.int
    subst h1 h2
    exact ⟨i, j, rfl, q _ H Same.rfl' (.int _)⟩
theorem parQ_core {i j : Nat} {is : List Nat} {ta te : TE} {t : TA} {f g : DE} {h : DA} (a : SndE K ta f) (a2 : SndE K te g) (b : SndA K t h) {H0 : Hp} {M : Nat → Option Addr} {st : DSt} {σ : L2.St} {F : Addr → Prop} {H : Hp} {fl : Fl} {st' : DSt} {E : Ends} (S : Sim K H0 M st σ F H) (e : dParQ i j is f g h st = some (fl, st')) (q : fl = .nx → FlOk K H0 M F H st' E .nx)
    {R : List V → Hp → Prop} (fin : ∀ u v vs σ' H', vs.length = is.length → σ' = (is.zip vs).foldl (fun s x => s.set x.1 (some x.2)) ((σ.set i (some u)).set j (some v)) → E.nx σ' H' → R (u :: v :: vs) H') : tCons ta (tCons te t) σ H R := by
  obtain ⟨⟨p0, s1⟩, e1, e⟩ := bs e
  obtain ⟨⟨q0, s2⟩, e2, e⟩ := bs e
  match p0, q0, e1, e2, e with
  | .d x, .tmp xs, e1, e2, e =>
    obtain ⟨⟨rs, s3⟩, e3, e⟩ := bs e
    obtain ⟨⟨ds, s4⟩, e4, e⟩ := bs e
    obtain ⟨s5, e5, e⟩ := bs e
    obtain ⟨s6, e6, e⟩ := bs e
    obtain ⟨s7, e7, e⟩ := bs e
    cases e
    refine a H0 M st σ F H (.d x) s1 _ S e1 fun u F1 H1 S1 E1 f1 r1 => ?_
    refine a2 H0 M s1 σ F1 H1 (.tmp xs) s2 _ S1 e2 fun v F2 H2 S2 E2 f2 r2 => ?_
    refine b H0 M s2 σ F2 H2 rs s3 _ S2 e3 fun vs F3 H3 S3 E3 f3 r3 => ?_
    obtain ⟨p, ws, rfl, hp, hr, nf, no, h0⟩ := r2
    have r1 : Rp K F1 H1 u x := r1
    obtain ⟨F4, S4, E4, rr, _⟩ := toDs_ok S3 E3 r3 e4
    have nf4 : ¬ F4 p := fun z => by
      rcases E4.new p z with z | z | z
      · exact nf z
      · rw [hp] at z; cases z
      · exact no z
    have no4 : ¬ OwnAt s4 σ p := fun z => no (z.imp E4.own)
    obtain ⟨hi, nl, rfl⟩ := setS_ok e5
    obtain ⟨hj, nl2, rfl⟩ := setS_ok e6
    have ru : Rp K F4 H3 u x := E4.rp S2 (E2.rp S1 r1)
    have S5 := S4.setD hi nl ru
    have no5 : ¬ OwnAt (s4.set i (some (.d x))) (σ.set i (some u)) p := fun ⟨k, hk, ek⟩ => by
      obtain ⟨zs, hk⟩ := hk
      rw [getD_set hi] at hk
      by_cases ik : i = k
      · rw [if_pos ik] at hk
        rcases hk with hk | hk <;> cases hk
      · rw [if_neg ik] at hk
        refine no4 ⟨k, ⟨zs, hk⟩, ?_⟩
        rw [List.getElem?_set_ne ik] at ek
        exact ek
    have S6 := S5.setOwn hj nl2 (E4.keep _ _ hp no) (E4.rpAll S2 hr) nf4 no5 (S1.fresh0 h0)
    have fe := ((E1.trans E2).trans E4).fext S S4
    have go : ∀ (js : List Nat) (us : List V) (ys : List D) (sa : DSt) (σa : L2.St), RpAll K F4 H3 us ys → Sim K H0 M sa σa F4 H3 → dPar.parGo js ys sa = some st' → us.length = js.length ∧ Sim K H0 M st' ((js.zip us).foldl (fun s x => s.set x.1 (some x.2)) σa) F4 H3 := by
      intro js
      induction js with
      | nil =>
        intro us ys sa σa r s e
        cases r with
        | nil => cases e; exact ⟨rfl, s⟩
        | cons _ _ => cases e
      | cons j js ih =>
        intro us ys sa σa r s e
        cases r with
        | nil => cases e
        | cons r1 r2 =>
          obtain ⟨sb, e6, e7⟩ := bs e
          obtain ⟨hj, nl2, rfl⟩ := setS_ok e6
          obtain ⟨l, z⟩ := ih _ _ _ _ r2 (s.setD hj nl2 r1) e7
          exact ⟨congrArg (· + 1) l, z⟩
    obtain ⟨l, S7⟩ := go is vs ds _ _ rr S6 e7
    exact fin _ _ _ _ _ l rfl (q rfl _ F4 H3 S7 fe)
  | .tmp _, _, _, _, e => cases e
  | .sl _, _, _, _, e => cases e
  | .d _, .d _, _, _, e => cases e
  | .d _, .sl _, _, _, e => cases e
theorem parQ_nx {i j : Nat} {is : List Nat} {f g : DE} {h : DA} {st st' : DSt} {fl : Fl} (e : dParQ i j is f g h st = some (fl, st')) : fl = .nx := by
  obtain ⟨⟨p0, s1⟩, e1, e⟩ := bs e
  obtain ⟨⟨q0, s2⟩, e2, e⟩ := bs e
  match p0, q0, e1, e2, e with
  | .d x, .tmp xs, e1, e2, e =>
    obtain ⟨_, _, e⟩ := bs e
    obtain ⟨_, _, e⟩ := bs e
    obtain ⟨_, _, e⟩ := bs e
    obtain ⟨_, _, e⟩ := bs e
    obtain ⟨_, _, e⟩ := bs e
    cases e
    rfl
  | .tmp _, _, _, _, e => cases e
  | .sl _, _, _, _, e => cases e
  | .d _, .d _, _, _, e => cases e
  | .d _, .sl _, _, _, e => cases e
theorem snd_parQ2 {i j : Nat} {ta te : TE} {f g : DE} (a : SndE K ta f) (a2 : SndE K te g) (b : SndA K tNil dNil) : SndS K (tPar i j (tCons ta (tCons te tNil))) (dParQ i j [] f g dNil) := by
  intro H0 M st σ F H fl st' E S e q
  have hfl := parQ_nx e
  subst hfl
  refine parQ_core a a2 b S e (fun _ => q) fun u v vs σ' H' l es z => ?_
  match vs, l, es with
  | [], _, es =>
    subst es
    exact ⟨u, v, rfl, z⟩
theorem snd_parQ3 {i j k : Nat} {ta te : TE} {t : TA} {f g : DE} {h : DA} (a : SndE K ta f) (a2 : SndE K te g) (b : SndA K t h) : SndS K (tPar3 i j k (tCons ta (tCons te t))) (dParQ i j [k] f g h) := by
  intro H0 M st σ F H fl st' E S e q
  have hfl := parQ_nx e
  subst hfl
  refine parQ_core a a2 b S e (fun _ => q) fun u v vs σ' H' l es z => ?_
  match vs, l, es with
  | [w], _, es =>
    subst es
    exact ⟨u, v, w, rfl, z⟩
end
section
variable {K : PySem.W.Frag} {X : Cx} {a b c : Expr} {ta tb : TE} {f g : DE} {pos : Pos} {x : Str}
theorem ss_parQ2 (i j : Nat) {y : Str} {px py pt : Pos} {kt k2 pt2} (hc : X.calm = true) (hN : X.N.Nodup) (hi : X.N[i]? = some x) (hj : X.N[j]? = some y) (hij : i ≠ j) (hx : X.env.scope.names.lookup x = some .local) (hy : X.env.scope.names.lookup y = some .local) (ha : SE K X a ta f) (hb : SE K X b tb g)
    (hw : swappedStores [.Tuple [.Name x px, .Name y py] kt pt] (.Tuple [a, b] k2 pt2) X.env = pure (some [x, y])) (h2 : starEach (a :: [b]) X.env = (false, eval a X.env) :: starEach [b] X.env := by rfl) (h3 : starEach (b :: []) X.env = (false, eval b X.env) :: starEach [] X.env := by rfl) (hs : swapsWithSole [.Tuple [.Name x px, .Name y py] kt pt] (.Tuple [a, b] k2 pt2) pos.line X.env = pure false := by rfl) :
    SS K X (.Assign [.Tuple [.Name x px, .Name y py] kt pt] (.Tuple [a, b] k2 pt2) pos) (tPar i j (tCons ta (tCons tb tNil))) (dParQ i j [] f g dNil) := ⟨ps_par hc hN hi hj hij hx hy (sa_cons ha (sa_cons hb sa_nil h3) h2).pe hw hs, snd_parQ2 ha.sn hb.sn (sa_nil (X := X)).sn⟩
theorem ss_parQ3 (i j l : Nat) {y z : Str} {px py pz pt : Pos} {kt k2 pt2} {tr : TA} {fr : DA} (hc : X.calm = true) (hN : X.N.Nodup) (hi : X.N[i]? = some x) (hj : X.N[j]? = some y) (hl : X.N[l]? = some z) (hij : i ≠ j) (hil : i ≠ l) (hjl : j ≠ l) (hx : X.env.scope.names.lookup x = some .local) (hy : X.env.scope.names.lookup y = some .local) (hz : X.env.scope.names.lookup z = some .local) (ha : SE K X a ta f) (hb : SE K X b tb g) (hd : SA K X [c] tr fr)
    (hw : swappedStores [.Tuple [.Name x px, .Name y py, .Name z pz] kt pt] (.Tuple [a, b, c] k2 pt2) X.env = pure (some [x, y, z])) (h2 : starEach (a :: [b, c]) X.env = (false, eval a X.env) :: starEach [b, c] X.env := by rfl) (h3 : starEach (b :: [c]) X.env = (false, eval b X.env) :: starEach [c] X.env := by rfl) (hs : swapsWithSole [.Tuple [.Name x px, .Name y py, .Name z pz] kt pt] (.Tuple [a, b, c] k2 pt2) pos.line X.env = pure false := by rfl) :
    SS K X (.Assign [.Tuple [.Name x px, .Name y py, .Name z pz] kt pt] (.Tuple [a, b, c] k2 pt2) pos) (tPar3 i j l (tCons ta (tCons tb tr))) (dParQ i j [l] f g fr) := ⟨ps_par3 hc hN hi hj hl hij hil hjl hx hy hz (sa_cons ha (sa_cons hb hd h3) h2).pe hw hs, snd_parQ3 ha.sn hb.sn hd.sn⟩
end
end DL
end

section
set_option Elab.async false
set_option linter.all false
set_option maxRecDepth 100000
set_option maxHeartbeats 1000000
/-! DLfor: loops over a list of one's own; remove; list(range); two new lists at once. -/
namespace DL
open PySem PySem.Spec PyProof.Rows L2
section
variable {K : PySem.W.Frag}
theorem parW_core {i j : Nat} {is : List Nat} {ta te : TE} {t : TA} {f g : DE} {h : DA} (a : SndE K ta f) (a2 : SndE K te g) (b : SndA K t h) {H0 : Hp} {M : Nat → Option Addr} {st : DSt} {σ : L2.St} {F : Addr → Prop} {H : Hp} {fl : Fl} {st' : DSt} {E : Ends} (S : Sim K H0 M st σ F H) (e : dParW i j is f g h st = some (fl, st')) (q : fl = .nx → FlOk K H0 M F H st' E .nx)
    {R : List V → Hp → Prop} (fin : ∀ u v vs σ' H', vs.length = is.length → σ' = (is.zip vs).foldl (fun s x => s.set x.1 (some x.2)) ((σ.set i (some u)).set j (some v)) → E.nx σ' H' → R (u :: v :: vs) H') : tCons ta (tCons te t) σ H R := by
  obtain ⟨⟨p0, s1⟩, e1, e⟩ := bs e
  obtain ⟨⟨q0, s2⟩, e2, e⟩ := bs e
  match p0, q0, e1, e2, e with
  | .tmp ys, .tmp xs, e1, e2, e =>
    obtain ⟨⟨rs, s3⟩, e3, e⟩ := bs e
    obtain ⟨⟨ds, s4⟩, e4, e⟩ := bs e
    obtain ⟨s5, e5, e⟩ := bs e
    obtain ⟨s6, e6, e⟩ := bs e
    obtain ⟨s7, e7, e⟩ := bs e
    cases e
    refine a H0 M st σ F H (.tmp ys) s1 _ S e1 fun u F1 H1 S1 E1 f1 r1 => ?_
    refine a2 H0 M s1 σ F1 H1 (.tmp xs) s2 _ S1 e2 fun v F2 H2 S2 E2 f2 r2 => ?_
    refine b H0 M s2 σ F2 H2 rs s3 _ S2 e3 fun vs F3 H3 S3 E3 f3 r3 => ?_
    obtain ⟨p, ws, rfl, hp, hr, nf, no, h0⟩ := r2
    obtain ⟨p1, ws1, rfl, hp1, hr1, nf1, no1, h01⟩ := r1
    obtain ⟨F4, S4, E4, rr, _⟩ := toDs_ok S3 E3 r3 e4
    have nf4 : ¬ F4 p := fun z => by
      rcases E4.new p z with z | z | z
      · exact nf z
      · rw [hp] at z; cases z
      · exact no z
    have no4 : ¬ OwnAt s4 σ p := fun z => no (z.imp E4.own)
    obtain ⟨hi, nl, rfl⟩ := setS_ok e5
    obtain ⟨hj, nl2, rfl⟩ := setS_ok e6
    have hp1' := E2.keep _ _ hp1 no1
    have no12 : ¬ OwnAt s2 σ p1 := fun z => no1 (z.imp E2.own)
    have nf12 : ¬ F2 p1 := fun z => by
      rcases E2.new p1 z with z | z | z
      · exact nf1 z
      · rw [hp1] at z; cases z
      · exact no1 z
    have nf14 : ¬ F4 p1 := fun z => by
      rcases E4.new p1 z with z | z | z
      · exact nf12 z
      · rw [hp1'] at z; cases z
      · exact no12 z
    have no14 : ¬ OwnAt s4 σ p1 := fun z => no12 (z.imp E4.own)
    have S5 := S4.setOwn hi nl (E4.keep _ _ hp1' no12) (E4.rpAll S2 (E2.rpAll S1 hr1)) nf14 no14 (S.fresh0 h01)
    have no5 : ¬ OwnAt (s4.set i (some (.own ys))) (σ.set i (some (.ref p1))) p := fun ⟨k, hk, ek⟩ => by
      obtain ⟨zs, hk⟩ := hk
      rw [getD_set hi] at hk
      by_cases ik : i = k
      · subst ik
        have hσ : i < σ.length := by rw [S4.len]; exact hi
        rw [List.getElem?_set_self hσ] at ek
        cases ek
        rw [h0] at hp1
        cases hp1
      · rw [if_neg ik] at hk
        refine no4 ⟨k, ⟨zs, hk⟩, ?_⟩
        rw [List.getElem?_set_ne ik] at ek
        exact ek
    have S6 := S5.setOwn hj nl2 (E4.keep _ _ hp no) (E4.rpAll S2 hr) nf4 no5 (S1.fresh0 h0)
    have fe := ((E1.trans E2).trans E4).fext S S4
    have go : ∀ (js : List Nat) (us : List V) (ys : List D) (sa : DSt) (σa : L2.St), RpAll K F4 H3 us ys → Sim K H0 M sa σa F4 H3 → dPar.parGo js ys sa = some st' → us.length = js.length ∧ Sim K H0 M st' ((js.zip us).foldl (fun s x => s.set x.1 (some x.2)) σa) F4 H3 := by
      intro js
      induction js with
      | nil =>
        intro us ys sa σa r s e
        cases r with
        | nil => cases e; exact ⟨rfl, s⟩
        | cons _ _ => cases e
      | cons j js ih =>
        intro us ys sa σa r s e
        cases r with
        | nil => cases e
        | cons r1 r2 =>
          obtain ⟨sb, e6, e7⟩ := bs e
          obtain ⟨hj, nl2, rfl⟩ := setS_ok e6
          obtain ⟨l, z⟩ := ih _ _ _ _ r2 (s.setD hj nl2 r1) e7
          exact ⟨congrArg (· + 1) l, z⟩
    obtain ⟨l, S7⟩ := go is vs ds _ _ rr S6 e7
    exact fin _ _ _ _ _ l rfl (q rfl _ F4 H3 S7 fe)
  | .d _, _, _, _, e => cases e
  | .sl _, _, _, _, e => cases e
  | .tmp _, .d _, _, _, e => cases e
  | .tmp _, .sl _, _, _, e => cases e
theorem parW_nx {i j : Nat} {is : List Nat} {f g : DE} {h : DA} {st st' : DSt} {fl : Fl} (e : dParW i j is f g h st = some (fl, st')) : fl = .nx := by
  obtain ⟨⟨p0, s1⟩, e1, e⟩ := bs e
  obtain ⟨⟨q0, s2⟩, e2, e⟩ := bs e
  match p0, q0, e1, e2, e with
  | .tmp ys, .tmp xs, e1, e2, e =>
    obtain ⟨_, _, e⟩ := bs e
    obtain ⟨_, _, e⟩ := bs e
    obtain ⟨_, _, e⟩ := bs e
    obtain ⟨_, _, e⟩ := bs e
    obtain ⟨_, _, e⟩ := bs e
    cases e
    rfl
  | .d _, _, _, _, e => cases e
  | .sl _, _, _, _, e => cases e
  | .tmp _, .d _, _, _, e => cases e
  | .tmp _, .sl _, _, _, e => cases e
theorem snd_parW2 {i j : Nat} {ta te : TE} {f g : DE} (a : SndE K ta f) (a2 : SndE K te g) (b : SndA K tNil dNil) : SndS K (tPar i j (tCons ta (tCons te tNil))) (dParW i j [] f g dNil) := by
  intro H0 M st σ F H fl st' E S e q
  have hfl := parW_nx e
  subst hfl
  refine parW_core a a2 b S e (fun _ => q) fun u v vs σ' H' l es z => ?_
  match vs, l, es with
  | [], _, es =>
    subst es
    exact ⟨u, v, rfl, z⟩
theorem snd_parW3 {i j k : Nat} {ta te : TE} {t : TA} {f g : DE} {h : DA} (a : SndE K ta f) (a2 : SndE K te g) (b : SndA K t h) : SndS K (tPar3 i j k (tCons ta (tCons te t))) (dParW i j [k] f g h) := by
  intro H0 M st σ F H fl st' E S e q
  have hfl := parW_nx e
  subst hfl
  refine parW_core a a2 b S e (fun _ => q) fun u v vs σ' H' l es z => ?_
  match vs, l, es with
  | [w], _, es =>
    subst es
    exact ⟨u, v, w, rfl, z⟩

/-! ### what leaves a slot alone -/
def Frame (j : Nat) (t : TS) : Prop := ∀ (E : Ends) (σ : L2.St) (H : Hp) (c : Option (Option V)), σ[j]? = c → (t { E with nx := fun σ' H' => σ'[j]? = c → E.nx σ' H' } σ H ↔ t E σ H)
theorem frame_next {j : Nat} : Frame j tNext := fun E σ H c hc => ⟨fun h => h hc, fun h _ => h⟩
theorem frame_seq {j : Nat} {a b : TS} (fa : Frame j a) (fb : Frame j b) : Frame j (tSeq a b) := fun E σ H c hc => by
  have h1 := fa { E with nx := fun σ' H' => b { E with nx := fun σ' H' => σ'[j]? = c → E.nx σ' H' } σ' H' } σ H c hc
  have h2 := fa { E with nx := fun σ' H' => b E σ' H' } σ H c hc
  have e : (fun (σ' : L2.St) (H' : Hp) => σ'[j]? = c → b { E with nx := fun σ' H' => σ'[j]? = c → E.nx σ' H' } σ' H') = fun σ' H' => σ'[j]? = c → b E σ' H' := by
    funext σ' H'
    exact propext ⟨fun h z => (fb E σ' H' c z).mp (h z), fun h z => (fb E σ' H' c z).mpr (h z)⟩
  have h1' : a { E with nx := fun σ' H' => σ'[j]? = c → b { E with nx := fun σ' H' => σ'[j]? = c → E.nx σ' H' } σ' H' } σ H ↔ a { E with nx := fun σ' H' => b { E with nx := fun σ' H' => σ'[j]? = c → E.nx σ' H' } σ' H' } σ H := h1
  have h2' : a { E with nx := fun σ' H' => σ'[j]? = c → b E σ' H' } σ H ↔ a { E with nx := fun σ' H' => b E σ' H' } σ H := h2
  rw [e] at h1'
  exact h1'.symm.trans h2'
theorem frame_if {j : Nat} {c : TT} {t u : TS} (ft : Frame j t) (fu : Frame j u) : Frame j (tIfS c t u) := fun E σ H k hk => by
  have e : (fun (b : Bool) (H1 : Hp) => if b = true then t { E with nx := fun σ' H' => σ'[j]? = k → E.nx σ' H' } σ H1 else u { E with nx := fun σ' H' => σ'[j]? = k → E.nx σ' H' } σ H1) = fun b H1 => if b = true then t E σ H1 else u E σ H1 := by
    funext b H1
    cases b with
    | true => exact propext (ft E σ H1 k hk)
    | false => exact propext (fu E σ H1 k hk)
  show c σ H _ ↔ c σ H _
  exact Iff.of_eq (congrArg (c σ H) e)
theorem frame_set {i j : Nat} {te : TE} (hij : i ≠ j) : Frame j (tAsg te (L2.gName i)) := fun E σ H k hk => by
  have e : (fun (x : V) (H1 : Hp) => (σ.set i (some x))[j]? = k → E.nx (σ.set i (some x)) H1) = fun x H1 => E.nx (σ.set i (some x)) H1 := by
    funext x H1
    exact propext ⟨fun h => h (by rw [List.getElem?_set_ne hij]; exact hk), fun h _ => h⟩
  show te σ H _ ↔ te σ H _
  exact Iff.of_eq (congrArg (te σ H) e)
/-- the list's reading by its name -/
theorem snd_forB {i : Nat} {is : List Nat} {tg : TG} {tb : TS} {g : DG} {b : DS} (hi : i ∉ is) (fr : Frame i tb) (c : SndG K is tg g) (d : SndS K tb b) : SndS K (tFor (iSeqT K (tVar i)) tg tb) (dForB i g b) := by
  intro H0 M st σ F H fl st' E S e q
  obtain ⟨xs, e1, e⟩ := bs e
  obtain ⟨p, vs, a1, a2, a3, ow⟩ := getL_ok S e1
  refine ⟨.ref p, a1, p, rfl, .inl ⟨⟨vs, SqL.of a2⟩, ?_⟩⟩
  refine ⟨fun k m σ' H' => k + m = xs.length ∧ σ'[i]? = some (some (.ref p)) ∧ ∃ s' F', Sim K H0 M s' σ' F' H' ∧ FExt K H0 F H F' H' ∧ forGoB i xs g b (xs.drop k) s' = some (fl, st'), ⟨xs.length, by simp, a1, st, F, S, .refl, e⟩, ?_⟩
  rintro k m σ' H' ⟨hkm, hσ, s', F', S', x', e'⟩
  by_cases hk : k < xs.length
  · have hdrop : xs.drop k = xs[k] :: xs.drop (k + 1) := List.drop_eq_getElem_cons hk
    rw [hdrop] at e'
    unfold forGoB at e'
    by_cases cg : getL s' i = some xs
    · rw [if_pos cg] at e'
      obtain ⟨p', vs', b1, b2, b3, ow'⟩ := getL_ok S' cg
      rw [hσ] at b1
      cases b1
      obtain ⟨vk, ek, rk⟩ := b3.get (List.getElem?_eq_getElem hk)
      refine .inr ⟨⟨vs', vk, SqL.of b2, ek⟩, fun σ2 H2 => σ2[i]? = some (some (.ref p)) ∧ ∃ s2 F2, Sim K H0 M s2 σ2 F2 H2 ∧ FExt K H0 F H F2 H2 ∧ forGoB i xs g b (xs.drop (k + 1)) s2 = some (fl, st'), fun σ2 H2 ⟨h0, s2, F2, h1, h2, h3⟩ => ⟨m - 1, by omega, by omega, h0, s2, F2, h1, h2, h3⟩, fun x H2 y => ?_⟩
      obtain ⟨ey, y⟩ := y
      subst ey
      have yy := y vs' (SqL.of b2)
      rw [ek] at yy
      cases yy
      obtain ⟨s3, e3, e'⟩ := bs e'
      obtain ⟨w, e4, e'⟩ := bs e'
      obtain ⟨wf, ws⟩ := w
      refine c H0 M s' σ' F' _ xs[k] vk s3 _ S' rk e3 fun σ3 S3 hs _ => ?_
      have hσ3 : σ3[i]? = some (some (.ref p)) := by rw [hs.2 i hi]; exact hσ
      refine (fr _ σ3 _ _ hσ3).mp ?_
      refine d H0 M s3 σ3 F' _ wf ws _ S3 e4 ?_
      cases wf with
      | nx => exact fun σ4 F4 H4 S4 x4 h4 => ⟨h4, ws, F4, S4, x'.trans x4, e'⟩
      | ct => cases e'
      | bk => cases e'
      | rt r => cases e'
    · rw [if_neg cg] at e'
      cases e'
  · have hl : k = xs.length := by omega
    subst hl
    rw [List.drop_length] at e'
    unfold forGoB at e'
    by_cases cg : getL s' i = some xs
    · rw [if_pos cg] at e'
      cases e'
      obtain ⟨p', vs', b1, b2, b3, ow'⟩ := getL_ok S' cg
      rw [hσ] at b1
      cases b1
      exact .inl ⟨⟨vs', SqL.of b2, by rw [b3.length]; exact Nat.le_refl _⟩, q σ' F' H' S' x'⟩
    · rw [if_neg cg] at e'
      cases e'
/-! ### remove -/
theorem removeI_ok {k : Int} : ∀ {is r : List Int}, removeI k is = some r → ∃ j, is[j]? = some k ∧ (∀ m : Nat, m < j → is[m]? ≠ some k) ∧ is.eraseIdx j = r
  | [], r, h => by cases h
  | x :: t, r, h => by
    have h : (if x = k then some t else (removeI k t).bind fun s => some (x :: s)) = some r := h
    by_cases c : x = k
    · rw [if_pos c] at h
      cases h
      exact ⟨0, by simp [c], fun m hm => by omega, rfl⟩
    · rw [if_neg c] at h
      obtain ⟨s, h1, h⟩ := bs h
      cases h
      obtain ⟨j, j1, j2, j3⟩ := removeI_ok h1
      refine ⟨j + 1, by simpa using j1, fun m hm => ?_, by simp [j3]⟩
      cases m with
      | zero => simpa using c
      | succ m => simpa using j2 m (by omega)
theorem rpAll_ints {F : Addr → Prop} {H : Hp} : ∀ is : List Int, RpAll K F H (is.map V.int) (is.map PyData.int)
  | [] => .nil
  | i :: r => .cons (.int i) (rpAll_ints r)
theorem snd_remove {i : Nat} {te : TE} {f : DE} (a : SndE K te f) : SndS K (tDrop (tBM K "list" rRemI (tVar i) (tCons te tNil))) (dRemove i f) := by
  intro H0 M st σ F H fl st' E S e q
  obtain ⟨zs, e0, e⟩ := bs e
  obtain ⟨p, e1, e⟩ := bs e
  obtain ⟨w, e2, e⟩ := bs e
  obtain ⟨p0, vs0, a1, a2, _⟩ := getL_ok S e0
  refine ⟨.ref p0, a1, .inl ⟨rfl, _, SqL.of a2⟩, ?_⟩
  refine a H0 M st σ F H p.1 p.2 _ S e1 fun v F1 H1 S1 E1 f1 r1 => ?_
  obtain ⟨F2, S2, E2, r2, _⟩ := toD_ok S1 E1 r1.weak e2
  obtain ⟨wd, ws⟩ := w
  match wd, e, r2 with
  | .int k, e, r2 =>
    obtain ⟨xs, e3, e⟩ := bs e
    obtain ⟨is, e4, e⟩ := bs e
    obtain ⟨r, e5, e⟩ := bs e
    obtain ⟨s, e6, e⟩ := bs e
    cases e
    cases r2
    obtain ⟨p1, vs, b1, b2, b3, o⟩ := getL_ok S2 e3
    rw [a1] at b1
    cases b1
    rw [ints_ok b3 e4] at b2
    obtain ⟨j, j1, j2, j3⟩ := removeI_ok e5
    obtain ⟨S3, E3⟩ := S2.put o a1 (rpAll_ints r) e6
    refine ⟨p0, is, k, j, rfl, rfl, b2, j1, j2, ?_⟩
    rw [j3]
    exact q σ F2 _ S3 ((E2.fext S S2).trans E3)
  | .none, e, _ => cases e
  | .bool _, e, _ => cases e
  | .str _, e, _ => cases e
  | .list _, e, _ => cases e
  | .tuple _, e, _ => cases e
  | .dict _, e, _ => cases e
/-! ### list(range(n)) -/
theorem rpAll_rg {F : Addr → Prop} {H : Hp} (n : Nat) : RpAll K F H ((List.range n).map fun i => V.int (0 + (i : Nat))) ((List.range n).map fun i => PyData.int (0 + (i : Nat))) := by
  have : ∀ l : List Nat, RpAll K F H (l.map fun i => V.int (0 + (i : Nat))) (l.map fun i => PyData.int (0 + (i : Nat))) := by
    intro l
    induction l with
    | nil => exact .nil
    | cons x r ih => exact .cons (.int _) ih
  exact this _
theorem snd_listR {ta : TE} {f : DE} (a : SndE K ta f) : SndE K (tLstRg (tRg1 ta)) (dListR f) := by
  intro H0 M st σ F H r st' Q S e q
  obtain ⟨p, e1, e⟩ := bs e
  refine a H0 M st σ F H p.1 p.2 _ S e1 fun v F1 H1 S1 E1 f1 r1 => ?_
  cases el : look p.2 p.1 with
  | none => rw [el] at e; cases e
  | some x =>
    rw [el] at e
    match x, e, el with
    | .int n, e, el =>
      have e : (if n ≤ 16777216 ∧ -(2 ^ 62) ≤ n then some (Rv.tmp ((List.range n.toNat).map fun i => .int (0 + (i : Nat))), p.2) else none) = some (r, st') := e
      have hv := (look_ok S1 r1.weak el).int
      subst hv
      by_cases c : n ≤ 16777216 ∧ -(2 ^ 62) ≤ n
      · rw [if_pos c] at e
        cases e
        refine ⟨n, rfl, ⟨by decide, by decide, c.2, by omega, by omega⟩, fun l hl => ?_⟩
        have rr := rpAll_rg (K := K) (F := F1) (H := H1) n.toNat
        obtain ⟨s, nn⟩ := new_tmp hl rr
        have eq : rgV 0 n = (List.range n.toNat).map fun i => V.int (0 + (i : Nat)) := by
          unfold rgV
          rw [Int.sub_zero]
        rw [eq]
        obtain ⟨S3, E3, r3⟩ := fin_new S1 E1 s nn
        exact q _ F1 _ S3 E3 trivial r3
      · rw [if_neg c] at e
        cases e
    | .none, e, _ => cases e
    | .bool _, e, _ => cases e
    | .str _, e, _ => cases e
    | .list _, e, _ => cases e
    | .tuple _, e, _ => cases e
    | .dict _, e, _ => cases e
end
section
variable {K : PySem.W.Frag} {X : Cx} {a b c e tg : Expr} {ta tb te : TE} {f g : DE} {pos p p2 : Pos} {x : Str} {ts : TS} {fs : DS}
theorem ss_parW2 (i j : Nat) {y : Str} {px py pt : Pos} {kt k2 pt2} (hc : X.calm = true) (hN : X.N.Nodup) (hi : X.N[i]? = some x) (hj : X.N[j]? = some y) (hij : i ≠ j) (hx : X.env.scope.names.lookup x = some .local) (hy : X.env.scope.names.lookup y = some .local) (ha : SE K X a ta f) (hb : SE K X b tb g)
    (hw : swappedStores [.Tuple [.Name x px, .Name y py] kt pt] (.Tuple [a, b] k2 pt2) X.env = pure (some [x, y])) (h2 : starEach (a :: [b]) X.env = (false, eval a X.env) :: starEach [b] X.env := by rfl) (h3 : starEach (b :: []) X.env = (false, eval b X.env) :: starEach [] X.env := by rfl) (hs : swapsWithSole [.Tuple [.Name x px, .Name y py] kt pt] (.Tuple [a, b] k2 pt2) pos.line X.env = pure false := by rfl) :
    SS K X (.Assign [.Tuple [.Name x px, .Name y py] kt pt] (.Tuple [a, b] k2 pt2) pos) (tPar i j (tCons ta (tCons tb tNil))) (dParW i j [] f g dNil) := ⟨ps_par hc hN hi hj hij hx hy (sa_cons ha (sa_cons hb sa_nil h3) h2).pe hw hs, snd_parW2 ha.sn hb.sn (sa_nil (X := X)).sn⟩
theorem ss_parW3 (i j l : Nat) {y z : Str} {px py pz pt : Pos} {kt k2 pt2} {tr : TA} {fr : DA} (hc : X.calm = true) (hN : X.N.Nodup) (hi : X.N[i]? = some x) (hj : X.N[j]? = some y) (hl : X.N[l]? = some z) (hij : i ≠ j) (hil : i ≠ l) (hjl : j ≠ l) (hx : X.env.scope.names.lookup x = some .local) (hy : X.env.scope.names.lookup y = some .local) (hz : X.env.scope.names.lookup z = some .local) (ha : SE K X a ta f) (hb : SE K X b tb g) (hd : SA K X [c] tr fr)
    (hw : swappedStores [.Tuple [.Name x px, .Name y py, .Name z pz] kt pt] (.Tuple [a, b, c] k2 pt2) X.env = pure (some [x, y, z])) (h2 : starEach (a :: [b, c]) X.env = (false, eval a X.env) :: starEach [b, c] X.env := by rfl) (h3 : starEach (b :: [c]) X.env = (false, eval b X.env) :: starEach [c] X.env := by rfl) (hs : swapsWithSole [.Tuple [.Name x px, .Name y py, .Name z pz] kt pt] (.Tuple [a, b, c] k2 pt2) pos.line X.env = pure false := by rfl) :
    SS K X (.Assign [.Tuple [.Name x px, .Name y py, .Name z pz] kt pt] (.Tuple [a, b, c] k2 pt2) pos) (tPar3 i j l (tCons ta (tCons tb tr))) (dParW i j [l] f g fr) := ⟨ps_par3 hc hN hi hj hl hij hil hjl hx hy hz (sa_cons ha (sa_cons hb hd h3) h2).pe hw hs, snd_parW3 ha.sn hb.sn hd.sn⟩
theorem se_listR {pos' : Pos} (hc : X.calm = true) (hg : Gl X "list") (hm : X.mg "list" = none) (hg2 : Gl X "range") (hm2 : X.mg "range" = none) (ha : SE K X a ta f) (n1 : starEach [a] X.env = (false, eval a X.env) :: starEach [] X.env := by rfl)
    (n2 : starEach [.Call (.Name "range" p2) [a] [] pos] X.env = (false, eval (.Call (.Name "range" p2) [a] [] pos) X.env) :: starEach [] X.env := by rfl) : SE K X (.Call (.Name "list" p) [.Call (.Name "range" p2) [a] [] pos] [] pos') (tLstRg (tRg1 ta)) (dListR f) := ⟨pe_listRg hc hg hm (prg_1 hg2 hm2 ha.pe n1) n2, snd_listR ha.sn⟩
theorem ss_forB (i : Nat) {is : List Nat} {iter : Expr} {body : List Stmt} {it : DI} {tgr : TG} {dg : DG} (hp : PassesOwn (model X.prog X.w) X.A X.env X.xe) (hc : X.calm = true) (hii : i ∉ is) (fr : Frame i ts) (hi : SI K X tg iter (iSeqT K (tVar i)) it) (hg : SG K X tg is tgr dg) (hb : SSs K X body ts fs) (hs : ∀ x, foldedSetIterable iter X.env x = pure x := by intro _; rfl) :
    SS K X (.For tg iter body [] pos) (tFor (iSeqT K (tVar i)) tgr ts) (dForB i dg fs) := ⟨ps_for hp hc hi.pe hg.pe hb.pe hs, snd_forB hii fr hg.sn hb.sn⟩
theorem ss_remove (i : Nat) {call : Expr} (hp : PE X e te → PE X call (tBM K "list" rRemI (tVar i) (tCons te tNil))) (he : SE K X e te f) (hs : swapsWith call none pos.line X.env = pure false := by rfl) (hK : X.K = K := by rfl) :
    SS K X (.Expr call pos) (tDrop (tBM K "list" rRemI (tVar i) (tCons te tNil))) (dRemove i f) := by
  subst hK
  exact ⟨ps_expr (hp he.pe) hs, snd_remove he.sn⟩
end
end DL
end

section
set_option Elab.async false
set_option linter.all false
set_option maxRecDepth 100000
set_option maxHeartbeats 1000000
/-! DLzip: shifts; a comprehension in a comprehension; a zip that is kept in a name. -/
namespace DL
open PySem PySem.Spec PyProof.Rows L2
section
variable {K : PySem.W.Frag}
theorem prim_shl : Prim2 K (rI CPow fun i j => .int (i * 2 ^ j.toNat)) opShl := by
  intro F H v w x y z Q a b e q
  cases x <;> cases y <;> try (cases e; done)
  rename_i i j
  have e : (if 0 ≤ j ∧ j ≤ 1000000 ∧ i.natAbs < 2 ^ 64 then some (Rv.d (.int (i * 2 ^ j.toNat))) else none) = some z := e
  by_cases c : 0 ≤ j ∧ j ≤ 1000000 ∧ i.natAbs < 2 ^ 64
  · rw [if_pos c] at e
    cases e
    exact ⟨_, _, a.int, b.int, c, q _ H Same.rfl' (.int _)⟩
  · rw [if_neg c] at e
    cases e
theorem prim_shr : Prim2 K (rI (fun _ j => 0 ≤ j) fun i j => .int (i / 2 ^ j.toNat)) opShr := by
  intro F H v w x y z Q a b e q
  cases x <;> cases y <;> try (cases e; done)
  rename_i i j
  have e : (if 0 ≤ j then some (Rv.d (.int (i / 2 ^ j.toNat))) else none) = some z := e
  by_cases c : 0 ≤ j
  · rw [if_pos c] at e
    cases e
    exact ⟨_, _, a.int, b.int, c, q _ H Same.rfl' (.int _)⟩
  · rw [if_neg c] at e
    cases e
end
section
variable {K : PySem.W.Frag} {X : Cx} {a b : Expr} {ta tb : TE} {f g : DE} {pos : Pos}
theorem se_lshift (ha : SE K X a ta f) (hb : SE K X b tb g) : SE K X (.BinOp a .LShift b pos) (tOp (rI CPow fun i j => .int (i * 2 ^ j.toNat)) ta tb) (dOp2 opShl f g) := se_op prim_shl op_shl ha hb
theorem se_rshift (ha : SE K X a ta f) (hb : SE K X b tb g) : SE K X (.BinOp a .RShift b pos) (tOp (rI (fun _ j => 0 ≤ j) fun i j => .int (i / 2 ^ j.toNat)) ta tb) (dOp2 opShr f g) := se_op prim_shr op_shr ha hb
end
theorem lookup_rel {env : Env} {x : Str} : ∀ {names : List (Str × NameKind)}, (names.lookup x = some .cell ∨ names.lookup x = some .free) →
    (names.map fun (n, k) => if (k == NameKind.free && env.scope.kind == .function && env.kindOf n == some .cell) then (n, NameKind.cell) else (n, k)).lookup x = some .cell ∨
    (names.map fun (n, k) => if (k == NameKind.free && env.scope.kind == .function && env.kindOf n == some .cell) then (n, NameKind.cell) else (n, k)).lookup x = some .free
  | [], h => by simp at h
  | (n, k) :: r, h => by
    have ih := @lookup_rel env x r
    show List.lookup x ((if (k == NameKind.free && env.scope.kind == .function && env.kindOf n == some .cell) = true then (n, NameKind.cell) else (n, k)) :: _) = _ ∨ List.lookup x ((if (k == NameKind.free && env.scope.kind == .function && env.kindOf n == some .cell) = true then (n, NameKind.cell) else (n, k)) :: _) = _
    cases hx : x == n with
    | true =>
      simp only [List.lookup_cons, hx] at h
      by_cases hc : (k == NameKind.free && env.scope.kind == .function && env.kindOf n == some .cell) = true
      · rw [if_pos hc]
        simp [List.lookup_cons, hx]
      · rw [if_neg hc]
        simpa [List.lookup_cons, hx] using h
    | false =>
      simp only [List.lookup_cons, hx] at h
      by_cases hc : (k == NameKind.free && env.scope.kind == .function && env.kindOf n == some .cell) = true
      · rw [if_pos hc]
        simp only [List.lookup_cons, hx]
        exact ih h
      · rw [if_neg hc]
        simp only [List.lookup_cons, hx]
        exact ih h
/-- a comprehension in a comprehension -/
theorem se_lcN {K : PySem.W.Frag} {X0 : Cx} {s0 : Shared} {H0 : Hp} {C0 : Addr} {cl0 : List (Str × Addr)} {fp0 : List Addr} {sc0 : Scope} {N : List Str} {pos : Pos} {elt tgt iter : Expr} {ifs : List Expr} {scope : Scope} {own : List (Str × Nat)} {is vs : List Nat} {wi : TI} {tgr : TG} {tt : TT} {teL : TE} {it : DI} {dg : DG} {dt : DT} {de : DE}
    (hc : X0.calm = true) (hN : X0.N.Nodup) (hi : SI K (X0.blk s0 H0 sc0 (compEnvC sc0 cl0 C0 X0.env) fp0) tgt iter wi it) (hNN : X0.N = N) (ok : BlkOk N sc0 scope own)
    (hg : ∀ (s : Shared) (H : Hp) (C : Addr) (cl : List (Str × Addr)) (fp : List Addr), SG K ((X0.blk s0 H0 sc0 (compEnvC sc0 cl0 C0 X0.env) fp0).blk s H scope (compEnvC scope cl C (X0.blk s0 H0 sc0 (compEnvC sc0 cl0 C0 X0.env) fp0).env) fp) tgt is tgr dg)
    (ht : ∀ (s : Shared) (H : Hp) (C : Addr) (cl : List (Str × Addr)) (fp : List Addr), STs K ((X0.blk s0 H0 sc0 (compEnvC sc0 cl0 C0 X0.env) fp0).blk s H scope (compEnvC scope cl C (X0.blk s0 H0 sc0 (compEnvC sc0 cl0 C0 X0.env) fp0).env) fp) ifs tt dt)
    (he : ∀ (s : Shared) (H : Hp) (C : Addr) (cl : List (Str × Addr)) (fp : List Addr), SE K ((X0.blk s0 H0 sc0 (compEnvC sc0 cl0 C0 X0.env) fp0).blk s H scope (compEnvC scope cl C (X0.blk s0 H0 sc0 (compEnvC sc0 cl0 C0 X0.env) fp0).env) fp) elt teL de)
    (hvs : own.map (·.2) = vs) (hsub : ∀ j ∈ is, j ∈ vs) (hs : ∀ x, foldedSetIterable iter (X0.blk s0 H0 sc0 (compEnvC sc0 cl0 C0 X0.env) fp0).env x = pure x := by intro _; rfl) (hK : X0.K = K := by rfl) :
    SE K (X0.blk s0 H0 sc0 (compEnvC sc0 cl0 C0 X0.env) fp0) (.ListComp elt [⟨tgt, iter, ifs, 0⟩] scope pos) (tLc wi tgr tt teL vs) (dLc it dg dt de vs) := by
  subst hNN
  have ok' : BlkOk (X0.blk s0 H0 sc0 (compEnvC sc0 cl0 C0 X0.env) fp0).N (X0.blk s0 H0 sc0 (compEnvC sc0 cl0 C0 X0.env) fp0).env.scope scope own := ⟨ok.kind, ok.uniq, ok.ix, fun y hy e => lookup_rel (ok.free y hy e), ok.own⟩
  exact se_lc (X := X0.blk s0 H0 sc0 (compEnvC sc0 cl0 C0 X0.env) fp0) hc hN hi ok' hg ht he hvs hsub hs hK
/-! ### a zip in a name -/
def extH (H : Hp) (h0 : Heap) (fp : List Addr) : Hp := fun b => if b ∈ fp then some (.ext fun h => h.get? b = h0.get? b) else H b
theorem extH_in {H : Hp} {h0 : Heap} {fp : List Addr} {b : Addr} (h : b ∈ fp) : extH H h0 fp b = some (.ext fun h => h.get? b = h0.get? b) := by
  unfold extH
  rw [if_pos h]
theorem extH_out {H : Hp} {h0 : Heap} {fp : List Addr} {b : Addr} (h : b ∉ fp) : extH H h0 fp b = H b := by
  unfold extH
  rw [if_neg h]
/-- a zip of the lists at a and b stands at z -/
def ZRd (z : Addr) (fp : List Addr) (h0 : Heap) (a b : Addr) : Prop := ∃ TI TO i1 i2, fp = [z, TI, TO, i1, i2] ∧ ZipApart z TI TO i1 i2 a b ∧ IsZip h0 z TI TO .none ∧ IsPair h0 TI (.ref i1) (.ref i2) ∧ (∃ x y, IsPair h0 TO x y) ∧ h0.IsListIter i1 a 0 ∧ h0.IsListIter i2 b 0
theorem ZRd.there {z : Addr} {fp : List Addr} {h0 : Heap} {a b : Addr} (h : ZRd z fp h0 a b) : ∀ c ∈ fp, ∃ o, h0.get? c = some o := by
  obtain ⟨TI, TO, i1, i2, rfl, _, q1, q2, ⟨x, y, q3⟩, ⟨o4, q4, _⟩, ⟨o5, q5, _⟩⟩ := h
  intro c hc
  simp only [List.mem_cons, List.not_mem_nil, or_false] at hc
  rcases hc with rfl | rfl | rfl | rfl | rfl
  · exact ⟨_, q1⟩
  · exact ⟨_, q2⟩
  · exact ⟨_, q3⟩
  · exact ⟨_, q4⟩
  · exact ⟨_, q5⟩
section
variable {X : Cx} {pins : List (Addr × Obj)} {σ : L2.St} {H : Hp} {s : Shared} {h' : Heap} {fp : List Addr}
theorem inv_ext (I : Inv X pins σ H s) (k : ∀ b o, s.heap.get? b = some o → h'.get? b = some o) (hn : ∀ c ∈ fp, s.heap.objs.size ≤ c) (ho : ∀ c ∈ fp, ∃ o, h'.get? c = some o) : Inv X pins σ (extH H h' fp) { s with heap := h' } := by
  have out : ∀ b o, s.heap.get? b = some o → b ∉ fp := fun b o e z => absurd (Nat.lt_of_lt_of_le (Heap.lt_size e) (hn b z)) (Nat.lt_irrefl _)
  have out2 : ∀ b u, H b = some u → b ∉ fp := fun b u e z => by
    have := I.hok.fresh (hn b z)
    rw [this] at e
    cases e
  have same : ∀ b u, H b = some u → extH H h' fp b = some u := fun b u e => (extH_out (out2 b u e)).trans e
  refine I.un (t' := s.toks) ⟨fun b o e _ _ _ => k b o e, fun b o e _ _ _ => ⟨o.slots, by rw [k b o e]⟩, fun b o e n _ => by rw [extH_out (out b o e)]; exact n, fun b o e _ => ⟨o, k b o e⟩, fun b xs e => same b _ e, fun b o u e => same b _ e, fun b ps e => ⟨#[], by rw [same b _ e]; simp⟩⟩ ?_
  intro b u e
  by_cases hb : b ∈ fp
  · rw [extH_in hb] at e
    cases e
    obtain ⟨o, eo⟩ := ho b hb
    exact ⟨rfl, ⟨o, eo⟩, fun h1 h2 q kk => (kk o (q.trans eo)).trans eo.symm⟩
  · rw [extH_out hb] at e
    exact (I.hok b u e).stay (fun c v _ z => k c v z) (fun c z => same c _ z) fun c xs z => same c _ z
theorem inv_unext {h0 : Heap} (I : Inv X pins σ (extH H h0 fp) s) (hf : ∀ c ∈ fp, H c = none) : Inv X pins σ H s := by
  have back : ∀ b u, H b = some u → extH H h0 fp b = some u := fun b u e => by
    have : b ∉ fp := fun z => by
      rw [hf b z] at e
      cases e
    exact (extH_out this).trans e
  have forth : ∀ b u, extH H h0 fp b = some u → (∀ φ, u ≠ .ext φ) → H b = some u := fun b u e n => by
    by_cases hb : b ∈ fp
    · rw [extH_in hb] at e
      exact absurd (Option.some.inj e).symm (n _)
    · rw [extH_out hb] at e
      exact e
  have non : ∀ b, extH H h0 fp b = none → H b = none := fun b e => by
    by_cases hb : b ∈ fp
    · rw [extH_in hb] at e
      cases e
    · rw [extH_out hb] at e
      exact e
  refine I.un (t' := s.toks) (h' := s.heap) ⟨fun _ _ e _ _ _ => e, fun _ o e _ _ _ => ⟨o.slots, e⟩, fun b _ _ z _ => non b z, fun _ o e _ => ⟨o, e⟩, fun b xs z => forth b _ z fun _ w => (nomatch w), fun b o x z => forth b _ z fun _ w => (nomatch w),
    fun b ps z => ⟨#[], by rw [forth b _ z fun _ w => (nomatch w)]; simp⟩⟩ ?_
  intro b u e
  exact (I.hok b u (back b u e)).stay (fun _ _ _ z => z) (fun c z => forth c _ z fun _ w => (nomatch w)) fun c xs z => forth c _ z fun _ w => (nomatch w)
theorem fp_ext {h0 : Heap} (I : Inv X pins σ (extH H h0 fp) s) (hf : ∀ c ∈ fp, H c = none) (hy : ∀ c ∈ fp, X.s_0.heap.objs.size ≤ c) {c : Addr} (hc : c ∈ fp) : FpOk X pins H c := by
  have e := extH_in (H := H) (h0 := h0) hc
  refine ⟨hf c hc, fun z => ?_, fun z => ?_, .inr (hy c hc), fun x a q z => ?_, fun p hp z => ?_⟩
  · have := I.free
    rw [← z, e] at this
    cases this
  · obtain ⟨_, o, ho, _⟩ := I.ok.funs.mem z
    exact absurd (Nat.lt_of_lt_of_le (Heap.lt_size ho) (hy c hc)) (Nat.lt_irrefl _)
  · have := I.freeC x a q
    rw [z, e] at this
    cases this
  · have := (I.pin p hp).2.1
    rw [z, e] at this
    cases this
end
def tZip (X : Cx) (ta : TA) : TE := fun σ H Q => ta σ H fun vs H1 => ∃ a b xs ys, vs = [.ref a, .ref b] ∧ SqL X.K H1 a xs ∧ SqL X.K H1 b ys ∧
  ∀ z fp h0, ZRd z fp h0 a b → (∀ c ∈ fp, X.s_0.heap.objs.size ≤ c) → (∀ c ∈ fp, H1 c = none) → Q (.ref z) (extH H1 h0 fp)
def iZipN (X : Cx) (i : Nat) : TI := fun σ H R => ∃ z fp h0 a b H1, σ[i]? = some (some (.ref z)) ∧ ZRd z fp h0 a b ∧ (∀ c ∈ fp, X.s_0.heap.objs.size ≤ c) ∧ (∀ c ∈ fp, H1 c = none) ∧ H = extH H1 h0 fp ∧ R (Itz X.K a b) H1
section
variable {X : Cx} {ta : TA} {e e2 : Expr} {p pos tpos : Pos} {elts : List Expr} {kk i : Nat} {x : Str}
theorem five_ge {n c : Nat} (h : c ∈ [n + 4, n + 2, n + 3, n, n + 1]) : n ≤ c := by
  simp only [List.mem_cons, List.not_mem_nil, or_false] at h
  omega
theorem zip_end {pins : List (Addr × Obj)} {σ : L2.St} {H1 : Hp} {s1 : Shared} {h' : Heap} {z a b : Addr} {fp : List Addr} {Q : VK} (I1 : Inv X pins σ H1 s1) (hk : ∀ c o, s1.heap.get? c = some o → h'.get? c = some o)
    (big : ∀ c ∈ fp, s1.heap.objs.size ≤ c) (rd : ZRd z fp h' a b)
    (q : ∀ z fp h0, ZRd z fp h0 a b → (∀ c ∈ fp, X.s_0.heap.objs.size ≤ c) → (∀ c ∈ fp, H1 c = none) → Q (.ref z) (extH H1 h0 fp)) : EP X pins σ Q (.ref z) { s1 with heap := h' } :=
  ⟨.ref z, _, inv_ext I1 hk big rd.there, rfl, q _ _ _ rd (fun c hc => Nat.le_trans I1.sz (big c hc)) fun c hc => I1.hok.fresh (big c hc)⟩
theorem pe_zipV (hg : Gl X "zip") (hm : X.mg "zip" = none) (ha : PA X [e, e2] ta) (hs : starEach [e, e2] X.env = (false, eval e X.env) :: starEach [e2] X.env := by rfl) (hpl : (backTo pos (starEach [e2] X.env)).any (·.1) = false := by rfl) :
    PE X (.Call (.Name "zip" p) [e, e2] [] pos) (tZip X ta) := by
  refine ⟨fun pins s σ H Q I h => ?_⟩
  refine Call_ (ld_blt I hg hm PyProof.Rows.boot_zip (PyProof.Rows.callWith_type1 (thn (ha.run pos pins s σ H _ I h) fun us s1 ⟨vs, H1, I1, r1, a, b, xs, ys, ex, hqx, hqy, q⟩ => ?_) hs hpl))
  subst ex
  cases r1 with
  | cons r rr =>
    cases rr with
    | cons r' rr =>
      cases rr
      cases r
      cases r'
      obtain ⟨its, rv, p1, _⟩ := I1.list hqx
      obtain ⟨its2, rv2, p2, _⟩ := I1.list hqy
      refine call_zip_2 p1.isList p2.isList fun h' hz hTI hTO h1 h2 hsz hk => ?_
      exact zip_end I1 hk (fun c hc => five_ge hc) ⟨_, _, _, _, rfl, PySem.W.ktu_apart s1.heap.objs.size a b p1.lt p2.lt, hz, hTI, ⟨_, _, hTO⟩, h1, h2⟩ q
theorem pi_zipN (hN : X.N[i]? = some x) (hv : Vis X.env.scope x) (hd : (x == ("__debug__" : Str)) = false := by decide) (hcd : (x == ("__classdict__" : Str)) = false := by decide) : PI X (.Tuple elts kk tpos) (.Name x p) (iZipN X i) := by
  refine ⟨fun pins s σ H R I h => ?_⟩
  obtain ⟨z, fp, h0, a, b, H1, hs, ⟨TI, TO, i1, i2, rfl, D, q1, q2, q3, q4, q5⟩, hy, hf, rfl, q⟩ := h
  refine thn ((pe_var (pos := p) (i := i) hN hv hd hcd).run pins s σ _ (fun v H2 => v = .ref z ∧ H2 = extH H1 h0 [z, TI, TO, i1, i2]) I ⟨.ref z, hs, rfl, rfl⟩) fun u s1 ⟨v, H2, I1, r1, ev, eH⟩ => ?_
  subst ev
  rw [eH] at I1
  cases r1
  have T := turn_zip (P := X.prog) (w := X.w) (K := X.K) (elts := elts) (kk := kk) (tpos := tpos) D
  have keep : ∀ c ∈ [z, TI, TO, i1, i2], s1.heap.get? c = h0.get? c := fun c hc => (I1.hok c _ (extH_in hc)).1
  have st := T.keep 0 h0 s1.heap ⟨q1, q2, q3, q4, q5⟩ fun c hc o eo => (keep c hc).trans eo
  refine T.self X.A 0 s1 _ _ st ?_
  exact ⟨z, _, _, _, H1, rfl, inv_unext I1 hf, T, st, fun c hc => fp_ext I1 hf hy hc, q⟩
end
theorem Sim.setNone {K : PySem.W.Frag} {H0 : Hp} {M : Nat → Option Addr} {st : DSt} {σ : L2.St} {F : Addr → Prop} {H : Hp} (S : Sim K H0 M st σ F H) {i : Nat} (h : st.getD i none = none) (v : V) : Sim K H0 M st (σ.set i (some v)) F H := by
  have ne : ∀ {j : Nat} {s : SV}, st.getD j none = some s → (σ.set i (some v))[j]? = σ[j]? := fun {j s} e => List.getElem?_set_ne fun z => by
    rw [z, e] at h
    cases h
  refine ⟨by rw [List.length_set]; exact S.len, fun j x e => ?_, fun j x e => ?_, fun j x e => ?_, S.lentE, S.lent0, fun j l p a b ea eb => ?_, S.frz, S.base⟩
  · rw [ne e]
    exact S.dat j x e
  · rw [ne e]
    exact S.own j x e
  · rw [ne e]
    exact S.lent j x e
  · obtain ⟨xs, a'⟩ := a
    obtain ⟨ys, b'⟩ := b
    have ea' : σ[j]? = some (some (.ref p)) := by
      rcases a' with z | z <;> rw [ne z] at ea <;> exact ea
    have eb' : σ[l]? = some (some (.ref p)) := by
      rcases b' with z | z <;> rw [ne z] at eb <;> exact eb
    exact S.inj j l p ⟨xs, a'⟩ ⟨ys, b'⟩ ea' eb'
theorem snd_zipRet {X : Cx} {i : Nat} {is vs : List Nat} {ta : TA} {tg : TG} {tt : TT} {te : TE} {fr : DA} {g : DG} {t : DT} {f : DE} (a : SndA X.K ta fr) (c : SndG X.K is tg g) (b : SndT X.K tt t) (d : SndE X.K te f) (hsub : ∀ j ∈ is, j ∈ vs) :
    SndS X.K (tSeq (tAsg (tZip X ta) (L2.gName i)) (tRet (tLc (iZipN X i) tg tt te vs))) (dZipRet i fr g t f vs) := by
  intro H0 M st σ F H fl st' E S e q
  obtain ⟨⟨ds, s2⟩, e0, e⟩ := bs e
  obtain ⟨p, e1, e0⟩ := bs e0
  obtain ⟨⟨ys, s2'⟩, e2, e0⟩ := bs e0
  obtain ⟨zs, e3, e0⟩ := bs e0
  have e0' : zs = ds ∧ s2' = s2 := by
    cases e0
    exact ⟨rfl, rfl⟩
  obtain ⟨rfl, rfl⟩ := e0'
  have e : (if i < s2'.length then match s2'.getD i none with
    | none => dRet (dLc (fun s => some (zs, s)) g t f vs) s2'
    | _ => none else none) = some (fl, st') := e
  by_cases hi : i < s2'.length
  · rw [if_pos hi] at e
    cases hn : s2'.getD i none with
    | some y => rw [hn] at e; cases e
    | none =>
      rw [hn] at e
      refine a H0 M st σ F H p.1 p.2 _ S e1 fun us F1 H1 S1 E1 f1 r1 => ?_
      obtain ⟨F2, S2, E2, rr, _⟩ := toDs_ok S1 E1 r1 e2
      match ys, us, rr, e3 with
      | [.list m, .list n], [_, _], .cons (.lst h1 r1) (.cons (.lst h2 r2) .nil), e3 =>
        cases e3
        refine ⟨_, _, _, _, rfl, h1.sql, h2.sql, fun z fp h0 rd hy hf => ?_⟩
        have hi' : i < σ.length := by rw [S2.len]; exact hi
        refine ⟨z, fp, h0, _, _, H1, by rw [List.getElem?_set_self hi'], rd, hy, hf, rfl, ?_⟩
        have S3 := S2.setNone hn (.ref z)
        obtain ⟨⟨r, s4⟩, e4, e⟩ := bs e
        have e5 := e4
        obtain ⟨⟨ds2, s5⟩, e6, e5⟩ := bs e5
        cases e6
        refine lc_body c b d hsub S3 S3 .refl (wd_zip h1 r1 h2 r2) e5 fun v F' H' S4 E4 f4 r4 => ?_
        have x1 := E2.fext S S2
        have x2 := E4.fext S3 S4
        cases r with
        | tmp xs =>
          cases e
          obtain ⟨p', vs', rfl, b', c', nf, no, hh0⟩ := r4
          exact q _ _ F' H' S4 (x1.trans x2) ⟨p', vs', rfl, b', c', nf, S3.fresh0 hh0⟩
        | d y =>
          exfalso
          revert e5
          show ¬ ((if _ then _ else none) = some (Rv.d y, s4))
          intro e5
          split at e5
          · obtain ⟨w', _, e5⟩ := bs e5
            cases e5
          · cases e5
        | sl y =>
          exfalso
          revert e5
          show ¬ ((if _ then _ else none) = some (Rv.sl y, s4))
          intro e5
          split at e5
          · obtain ⟨w', _, e5⟩ := bs e5
            cases e5
          · cases e5
  · rw [if_neg hi] at e
    cases e
/-- x = zip(a, b); return [e for .. in x] -/
theorem sss_zipRet {K : PySem.W.Frag} {X : Cx} (i : Nat) {x : Str} {p px pi pos cp rpos lpos tpos : Pos} {a b elt : Expr} {elts : List Expr} {kk : Nat} {ifs : List Expr} {scope : Scope} {own : List (Str × Nat)} {is vs : List Nat} {ta : TA} {fr : DA} {tgr : TG} {tt : TT} {teL : TE} {dg : DG} {dt : DT} {de : DE} (hc : X.calm = true) (hN : X.N.Nodup) (hi : X.N[i]? = some x) (hx : Loc X.env.scope x)
    (hg0 : Gl X "zip") (hm0 : X.mg "zip" = none) (ha : SA K X [a, b] ta fr) (ok : BlkOk X.N X.env.scope scope own)
    (hg : ∀ (s : Shared) (H : Hp) (C : Addr) (cl : List (Str × Addr)) (fp : List Addr), SG K (X.blk s H scope (compEnvC scope cl C X.env) fp) (.Tuple elts kk tpos) is tgr dg) (ht : ∀ (s : Shared) (H : Hp) (C : Addr) (cl : List (Str × Addr)) (fp : List Addr), STs K (X.blk s H scope (compEnvC scope cl C X.env) fp) ifs tt dt)
    (he : ∀ (s : Shared) (H : Hp) (C : Addr) (cl : List (Str × Addr)) (fp : List Addr), SE K (X.blk s H scope (compEnvC scope cl C X.env) fp) elt teL de) (hvs : own.map (·.2) = vs) (hsub : ∀ j ∈ is, j ∈ vs)
    (hv : Vis X.env.scope x := by first | exact Or.inl rfl | exact Or.inr (Or.inl rfl) | exact Or.inr (Or.inr rfl)) (hd : (x == ("__debug__" : Str)) = false := by decide) (hcd : (x == ("__classdict__" : Str)) = false := by decide)
    (hs : ∀ y, foldedSetIterable (.Name x pi) X.env y = pure y := by intro _; rfl) (hsw : swapsWith (.Call (.Name "zip" p) [a, b] [] cp) (some (.Name x px)) pos.line X.env = pure false := by rfl) (hf : X.fn x = true ∨ X.env.scope.names.lookup x = some .local := by first | exact .inl rfl | exact .inr rfl | assumption)
    (h2 : starEach [a, b] X.env = (false, eval a X.env) :: starEach [b] X.env := by rfl) (hpl : (backTo cp (starEach [b] X.env)).any (·.1) = false := by rfl) (hK : X.K = K := by rfl) :
    SSs K X [.Assign [.Name x px] (.Call (.Name "zip" p) [a, b] [] cp) pos, .Return (some (.ListComp elt [⟨.Tuple elts kk tpos, .Name x pi, ifs, 0⟩] scope lpos)) rpos] (tSeq (tAsg (tZip X ta) (L2.gName i)) (tRet (tLc (iZipN X i) tgr tt teL vs))) (dZipRet i fr dg dt de vs) := by
  subst hK
  subst hvs
  exact ⟨pss_cons (ps_set hN hi hx (pe_zipV hg0 hm0 ha.pe h2 hpl) hsw hf) (pss_one (ps_ret (pe_lc hc hN (pi_zipN hi hv hd hcd) ok (fun s H C cl fp => (hg s H C cl fp).pe) (fun s H C cl fp => (ht s H C cl fp).pe) (fun s H C cl fp => (he s H C cl fp).pe) hs))),
    snd_zipRet ha.sn (hg {} (fun _ => none) 0 [] []).sn (ht {} (fun _ => none) 0 [] []).sn (he {} (fun _ => none) 0 [] []).sn hsub⟩
end DL
end

section
set_option Elab.async false
set_option linter.all false
set_option maxRecDepth 100000
set_option maxHeartbeats 1000000
/-! DLlzip: list(zip(a, b)). -/
namespace DL
open PySem PySem.Spec PyProof.Rows L2
theorem zip_no_len : typeLookup (.type "zip") "__len__" = pure none := am_miss_of_fast (by decide +kernel)
theorem zip_no_hint : typeLookup (.type "zip") "__length_hint__" = pure none := am_miss_of_fast (by decide +kernel)
/-- the zip stands ahead of pair i; its last pair may be out -/
structure ZAt (h : Heap) (z TI TO i1 i2 l1 l2 : Addr) (xs ys : Array Value) (i : Nat) : Prop where
  zip : (IsZip h z TI TO .none ∧ ∃ a b, IsPair h TO a b) ∨ ∃ T f o, IsZipHeld h z TI TO T f ∧ h.get? T = some o
  ti : IsPair h TI (.ref i1) (.ref i2)
  h1 : h.IsListIter i1 l1 i
  h2 : h.IsListIter i2 l2 i
  hl1 : h.IsList l1 xs
  hl2 : h.IsList l2 ys
section
variable {h h' : Heap} {z TI TO i1 i2 l1 l2 S : Addr} {xs ys : Array Value} {i : Nat}
theorem ZAt.isZip (Z : ZAt h z TI TO i1 i2 l1 l2 xs ys i) : ∃ o, h.get? z = some o ∧ o.cls = .type "zip" := by
  rcases Z.zip with ⟨q, _⟩ | ⟨_, _, _, q, _⟩
  · exact ⟨_, q, rfl⟩
  · exact ⟨_, q, rfl⟩
theorem ZAt.keep (Z : ZAt h z TI TO i1 i2 l1 l2 xs ys i) (nS : S ≠ z ∧ S ≠ TI ∧ S ≠ TO ∧ S ≠ i1 ∧ S ≠ i2 ∧ S ≠ l1 ∧ S ≠ l2) (k : ∀ b o, b ≠ S → h.get? b = some o → h'.get? b = some o) (hS : (∃ o, h.get? S = some o) → ∃ o, h'.get? S = some o) : ZAt h' z TI TO i1 i2 l1 l2 xs ys i := by
  obtain ⟨n1, n2, n3, n4, n5, n6, n7⟩ := nS
  refine ⟨?_, k _ _ n2.symm Z.ti, Z.h1.at fun o e => k _ o n4.symm e, Z.h2.at fun o e => k _ o n5.symm e, Z.hl1.at fun o e => k _ o n6.symm e, Z.hl2.at fun o e => k _ o n7.symm e⟩
  rcases Z.zip with ⟨q, a, b, q2⟩ | ⟨T, f, o, q, q2⟩
  · exact .inl ⟨k _ _ n1.symm q, a, b, k _ _ n3.symm q2⟩
  · by_cases hT : T = S
    · subst hT
      obtain ⟨o', e⟩ := hS ⟨o, q2⟩
      exact .inr ⟨T, f, o', k _ _ n1.symm q, e⟩
    · exact .inr ⟨T, f, o, k _ _ n1.symm q, k _ _ hT q2⟩
end
def PairsAt (h : Heap) (n0 : Nat) (acc xs ys : Array Value) (i : Nat) : Prop := ∃ t : Nat → Addr, ∀ j, j < i → acc[j]? = some (.ref (t j)) ∧ (∃ x y, xs[j]? = some x ∧ ys[j]? = some y ∧ IsPair h (t j) x y) ∧ n0 ≤ t j ∧ ∀ k, k < j → t k < t j
section
variable {prog : Program} {w : World} {A : Around} {E : Value → Shared → Prop} {s : Shared} {z TI TO i1 i2 l1 l2 : Addr} {xs ys : Array Value}
/-- the next pair -/
theorem zip_pair {n0 i : Nat} {x y : Value} {Q : Option Value → Shared → Prop} (D : ZipApart z TI TO i1 i2 l1 l2) (Z : ZAt s.heap z TI TO i1 i2 l1 l2 xs ys i) (hx : xs[i]? = some x) (hy : ys[i]? = some y)
    (hQ : ∀ h', ZAt h' z TI TO i1 i2 l1 l2 xs ys (i + 1) → IsPair h' s.heap.objs.size x y → (∀ c o, c ∉ [z, TO, i1, i2] → s.heap.get? c = some o → h'.get? c = some o) → Q (some (.ref s.heap.objs.size)) { s with heap := h' }) :
    wpAny (model prog w) A (pyNext (.ref z)) Q E s := by
  have ne : ∀ {c : Addr}, c ∉ [z, TO, i1, i2] → c ≠ z ∧ c ≠ TO ∧ c ≠ i1 ∧ c ≠ i2 := fun h => by
    simp only [List.mem_cons, List.not_mem_nil, or_false, not_or] at h
    exact h
  rcases Z.zip with ⟨q, a, b, q2⟩ | ⟨T, f, o, q, q2⟩
  · refine wpAny_pyNext_zip_item D q Z.ti q2 Z.h1 Z.h2 Z.hl1 Z.hl2 hx hy fun h' a1 a2 a3 a4 a5 a6 hk => ?_
    refine hQ h' ⟨.inr ⟨_, false, _, a1, a5⟩, hk _ _ D.TIz D.TITO D.TIi1 D.TIi2 Z.ti, a3, a4, Z.hl1.at fun o e => hk _ o D.l1z D.l1TO D.l1i1 D.l1i2 e, Z.hl2.at fun o e => hk _ o D.l2z D.l2TO D.l2i1 D.l2i2 e⟩ a5 fun c o hc e => ?_
    obtain ⟨m1, m2, m3, m4⟩ := ne hc
    exact hk c o m1 m2 m3 m4 e
  · refine wpAny_pyNext_zip_item_held D q q2 Z.ti Z.h1 Z.h2 Z.hl1 Z.hl2 hx hy fun h' a1 a3 a4 a5 a6 hk => ?_
    have hT : ∃ o', h'.get? T = some o' := by
      by_cases c1 : T = z
      · subst c1; exact ⟨_, a1⟩
      · by_cases c2 : T = i1
        · subst c2; obtain ⟨o', e, _⟩ := a3; exact ⟨o', e⟩
        · by_cases c3 : T = i2
          · subst c3; obtain ⟨o', e, _⟩ := a4; exact ⟨o', e⟩
          · exact ⟨o, hk T o c1 c2 c3 q2⟩
    obtain ⟨o', eo'⟩ := hT
    refine hQ h' ⟨.inr ⟨_, true, _, a1, eo'⟩, hk _ _ D.TIz D.TIi1 D.TIi2 Z.ti, a3, a4, Z.hl1.at fun o e => hk _ o D.l1z D.l1i1 D.l1i2 e, Z.hl2.at fun o e => hk _ o D.l2z D.l2i1 D.l2i2 e⟩ a5 fun c o hc e => ?_
    obtain ⟨m1, m2, m3, m4⟩ := ne hc
    exact hk c o m1 m3 m4 e
theorem zip_stop {i : Nat} {Q : Option Value → Shared → Prop} (hh : A.handled = none) (D : ZipApart z TI TO i1 i2 l1 l2) (Z : ZAt s.heap z TI TO i1 i2 l1 l2 xs ys i) (hend : xs[i]? = none ∨ ys[i]? = none)
    (hQ : ∀ h', (∀ c o, c ∉ [z, TO, i1, i2] → s.heap.get? c = some o → h'.get? c = some o) → Q none { s with heap := h' }) :
    wpAny (model prog w) A (pyNext (.ref z)) Q E s := by
  have ne : ∀ {c : Addr}, c ∉ [z, TO, i1, i2] → c ≠ z ∧ c ≠ TO ∧ c ≠ i1 ∧ c ≠ i2 := fun h => by
    simp only [List.mem_cons, List.not_mem_nil, or_false, not_or] at h
    exact h
  rcases Z.zip with ⟨q, a, b, q2⟩ | ⟨T, f, o, q, q2⟩
  · refine wpAny_pyNext_zip_end hh D q Z.ti q2 Z.h1 Z.h2 Z.hl1 Z.hl2 hend fun h' hk => hQ h' fun c o hc e => ?_
    obtain ⟨m1, m2, m3, m4⟩ := ne hc
    exact hk c o m1 m2 m3 m4 e
  · refine wpAny_pyNext_zip_end_held hh D q q2 Z.ti Z.h1 Z.h2 Z.hl1 Z.hl2 hend fun h' hk => hQ h' fun c o hc e => ?_
    obtain ⟨m1, m2, m3, m4⟩ := ne hc
    exact hk c o m1 m3 m4 e
end
section
variable {prog : Program} {w : World} {A : Around} {R : Result → Shared → Prop} {z TI TO i1 i2 l1 l2 S : Addr} {xs ys : Array Value}
theorem zip_loop (hh : A.handled = none) (D : ZipApart z TI TO i1 i2 l1 l2) (hn : min xs.size ys.size ≤ sizeLine) (nS : S ≠ z ∧ S ≠ TI ∧ S ≠ TO ∧ S ≠ i1 ∧ S ≠ i2 ∧ S ≠ l1 ∧ S ≠ l2) (n0 : Nat) (hlt : ∀ b, b ∈ [S, z, TO, i1, i2] → b < n0) (res : Value) :
    ∀ (k i : Nat) (s : Shared) (acc : Array Value) (c : Nat), min xs.size ys.size - i = k → i ≤ min xs.size ys.size → ZAt s.heap z TI TO i1 i2 l1 l2 xs ys i → n0 ≤ s.heap.objs.size → s.heap.get? S = some { cls := .type "list", dict := none, data := .seq acc c, slots := #[] } → acc.size = i → PairsAt s.heap n0 acc xs ys i →
    (∀ h' acc' c', (∀ b o, b ∉ [S, z, TO, i1, i2] → s.heap.get? b = some o → h'.get? b = some o) → h'.get? S = some { cls := .type "list", dict := none, data := .seq acc' c', slots := #[] } → acc'.size = min xs.size ys.size → PairsAt h' n0 acc' xs ys (min xs.size ys.size) → R (.ok (.ret res)) { s with heap := h' }) →
    codeAny (model prog w) A (.builtin "list.extend.loop" ⟨[.ref S, .ref z, res], []⟩) R s := by
  obtain ⟨n1, n2, n3, n4, n5, n6, n7⟩ := id nS
  have sub : ∀ {b : Addr}, b ∉ [S, z, TO, i1, i2] → b ∉ [z, TO, i1, i2] := fun h z => h (List.mem_cons_of_mem _ z)
  have S4 : S ∉ [z, TO, i1, i2] := by
    simp only [List.mem_cons, List.not_mem_nil, or_false, not_or]
    exact ⟨n1, n3, n4, n5⟩
  have new : ∀ {b : Addr}, n0 ≤ b → b ∉ [S, z, TO, i1, i2] := fun h z => absurd (Nat.lt_of_lt_of_le (hlt _ z) h) (Nat.lt_irrefl _)
  intro k
  induction k with
  | zero =>
    intro i s acc c hk hi Z hs hS hac hP hR
    have hin : i = min xs.size ys.size := by omega
    subst hin
    refine codeAny_builtin F.entry_extend_loop ?_
    rw [Around.under_plainId F.plain_extend_loop _]
    show wpAny _ A.in1 (pyNext (.ref z) >>= _) _ _ s
    have hend : xs[min xs.size ys.size]? = none ∨ ys[min xs.size ys.size]? = none := by
      rcases Nat.le_total xs.size ys.size with h | h
      · exact .inl (by rw [Nat.min_eq_left h]; exact Array.getElem?_eq_none (Nat.le_refl _))
      · exact .inr (by rw [Nat.min_eq_right h]; exact Array.getElem?_eq_none (Nat.le_refl _))
    refine wpAny_bind (zip_stop (A := A.in1) hh D Z hend fun h' hk2 => ?_)
    refine wpAny_pure (hR h' acc c (fun b o hb e => hk2 b o (sub hb) e) (hk2 S _ S4 hS) hac ?_)
    obtain ⟨t, ht⟩ := hP
    refine ⟨t, fun j hj => ?_⟩
    obtain ⟨p1, ⟨x, y, p2, p3, p4⟩, p5, p6⟩ := ht j hj
    exact ⟨p1, ⟨x, y, p2, p3, hk2 _ _ (sub (new p5)) p4⟩, p5, p6⟩
  | succ k ih =>
    intro i s acc c hk hi Z hs hS hac hP hR
    have hix : i < xs.size := Nat.lt_of_lt_of_le (show i < min xs.size ys.size by omega) (Nat.min_le_left ..)
    have hiy : i < ys.size := Nat.lt_of_lt_of_le (show i < min xs.size ys.size by omega) (Nat.min_le_right ..)
    refine codeAny_builtin F.entry_extend_loop ?_
    rw [Around.under_plainId F.plain_extend_loop _]
    show wpAny _ A.in1 (pyNext (.ref z) >>= _) _ _ s
    refine wpAny_bind (zip_pair (n0 := n0) D Z (Array.getElem?_eq_getElem hix) (Array.getElem?_eq_getElem hiy) fun h' Z' hp hk2 => ?_)
    have hS' := hk2 S _ S4 hS
    have szT : s.heap.objs.size < h'.objs.size := Heap.lt_size hp
    show wpAny _ A.in1 (updateSeq S (·.push (.ref s.heap.objs.size)) >>= _) _ _ _
    refine wpAny_bind ?_
    have oth : ∀ b o, b ≠ S → h'.get? b = some o → (h'.update S (Obj.mapSeq (·.push (.ref s.heap.objs.size)))).get? b = some o := fun b o hb e => (Heap.get?_update_other _ _ (Ne.symm hb)).trans e
    have self' := Heap.get?_update_self (Obj.mapSeq (·.push (Value.ref s.heap.objs.size))) hS' rfl
    refine wpAny_updateSeq hS' rfl (wpAny_pure ⟨plainId_quiet F.plain_extend_loop _, ih (i + 1) _ (acc.push (.ref s.heap.objs.size)) _ (by omega) (by omega) (Z'.keep nS oth fun _ => ⟨_, self'⟩) ?_ self' (by rw [Array.size_push, hac]) ?_ fun h'' acc' c' m2 hS2 hz2 hP2 => ?_⟩)
      (by rw [hac]; omega) (by show (acc.push _).size ≤ sizeLine + 1; rw [Array.size_push, hac]; omega)
    · exact Nat.le_trans hs (Nat.le_of_lt (Nat.lt_of_lt_of_le szT (Nat.le_of_eq (Heap.size_update ..).symm)))
    · obtain ⟨t, ht⟩ := hP
      have keep2 : ∀ b o, n0 ≤ b → s.heap.get? b = some o → (h'.update S (Obj.mapSeq (·.push (.ref s.heap.objs.size)))).get? b = some o := fun b o hb e => oth b o (fun z => new hb (by rw [z]; exact List.mem_cons_self)) (hk2 b o (sub (new hb)) e)
      refine ⟨fun j => if j < i then t j else s.heap.objs.size, fun j hj => ?_⟩
      by_cases c : j < i
      · obtain ⟨p1, ⟨x, y, p2, p3, p4⟩, p5, p6⟩ := ht j c
        simp only [if_pos c]
        refine ⟨?_, ⟨x, y, p2, p3, keep2 _ _ p5 p4⟩, p5, fun k hk => ?_⟩
        · rw [Array.getElem?_push_lt (by omega), ← p1, Array.getElem?_eq_getElem (by omega)]
        · rw [if_pos (by omega)]
          exact p6 k hk
      · have hji : j = i := by omega
        subst hji
        simp only [if_neg c]
        refine ⟨?_, ⟨_, _, Array.getElem?_eq_getElem hix, Array.getElem?_eq_getElem hiy, oth _ _ (fun z => new hs (by rw [z]; exact List.mem_cons_self)) hp⟩, hs, fun k hk => ?_⟩
        · rw [← hac]
          simp
        · rw [if_pos hk]
          obtain ⟨_, ⟨x, y, _, _, p4⟩, _⟩ := ht k hk
          exact Heap.lt_size p4
    · refine hR h'' acc' c' (fun b o hb e => m2 b o hb (oth b o (fun z => hb (by rw [z]; exact List.mem_cons_self)) (hk2 b o (sub hb) e))) hS2 hz2 hP2
end
section
variable {prog : Program} {w : World} {A : Around} {E : Value → Shared → Prop} {s : Shared} {z TI TO i1 i2 l1 l2 : Addr} {xs ys : Array Value}
/-- list(z), z a zip of two lists that was not asked yet -/
theorem call_list_zip {Q : Value → Shared → Prop} (hh : A.handled = none) (D : ZipApart z TI TO i1 i2 l1 l2) (hn : min xs.size ys.size ≤ sizeLine) (Z : ZAt s.heap z TI TO i1 i2 l1 l2 xs ys 0) (hlt : ∀ b, b ∈ [z, TI, TO, i1, i2, l1, l2] → b < s.heap.objs.size)
    (hQ : ∀ h' acc c, (∀ b o, b ∉ [s.heap.objs.size, z, TO, i1, i2] → s.heap.get? b = some o → h'.get? b = some o) → h'.get? s.heap.objs.size = some { cls := .type "list", dict := none, data := .seq acc c, slots := #[] } →
      acc.size = min xs.size ys.size → PairsAt h' (s.heap.objs.size + 1) acc xs ys (min xs.size ys.size) → Q (.ref s.heap.objs.size) { s with heap := h' }) :
    wpAny (model prog w) A (call (.type "list") [.ref z]) Q E s := by
  generalize hSz : s.heap.objs.size = S at *
  have neS : ∀ b, b ∈ [z, TI, TO, i1, i2, l1, l2] → S ≠ b := fun b hb e => by
    have := hlt b hb
    rw [← e] at this
    exact Nat.lt_irrefl _ this
  have nS : S ≠ z ∧ S ≠ TI ∧ S ≠ TO ∧ S ≠ i1 ∧ S ≠ i2 ∧ S ≠ l1 ∧ S ≠ l2 := ⟨neS _ (by simp), neS _ (by simp), neS _ (by simp), neS _ (by simp), neS _ (by simp), neS _ (by simp), neS _ (by simp)⟩
  refine callType_codes (Q₁ := fun obj s₁ => obj = .ref S ∧ s₁ = { s with heap := s.heap.push { cls := .type "list", data := .seq #[] } }) F.called_list (F.typeCall_list_1 _) F.entry_list_init
    (code_list_new _ ⟨by rw [hSz], rfl⟩) fun obj s₁ h₁ => ?_
  obtain ⟨rfl, rfl⟩ := h₁
  have hS : (s.heap.push { cls := .type "list", data := .seq #[] }).get? S = some { cls := .type "list", data := .seq #[] } := by
    rw [← hSz]
    exact Heap.get?_push_size _ rfl
  have push : ∀ b o, s.heap.get? b = some o → (s.heap.push { cls := .type "list", data := .seq #[] }).get? b = some o := fun b o e => Heap.get?_push_of_some _ e
  have Z1 : ZAt (s.heap.push { cls := .type "list", data := .seq #[] }) z TI TO i1 i2 l1 l2 xs ys 0 := Z.keep nS (fun b o _ e => push b o e) fun _ => ⟨_, hS⟩
  refine ⟨⟨_, hS, rfl⟩, F.args_list_init_2 _ _, ?_⟩
  show wpAny _ A.in1.in1 (do let old ← Builtin.List.listItems (.ref S); Builtin.List.listUpdate (.ref S) (fun _ => #[]); letGo old.toList.reverse; Builtin.List.listExtendWith (.ref S) (.ref z) .none) _ _ _
  refine wpAny_bind ?_
  unfold Builtin.List.listItems
  refine wpAny_bind (wpAny_seqItems hS rfl (wpAny_pure ?_))
  show wpAny _ A.in1.in1 (updateSeq S (fun _ => #[]) >>= fun _ => letGo (#[] : Array Value).toList.reverse >>= fun _ => Builtin.List.listExtendWith (.ref S) (.ref z) .none) _ _ _
  refine wpAny_bind (wpAny_updateSeq hS rfl ?_)
  have hS2 := Heap.get?_update_self (Obj.mapSeq (fun _ => (#[] : Array Value))) hS rfl
  have oth2 : ∀ b o, b ≠ S → (s.heap.push { cls := .type "list", data := .seq #[] }).get? b = some o → ((s.heap.push { cls := .type "list", data := .seq #[] }).update S (Obj.mapSeq (fun _ => (#[] : Array Value)))).get? b = some o :=
    fun b o hb e => (Heap.get?_update_other _ _ (Ne.symm hb)).trans e
  refine wpAny_bind (wpAny_letGo ?_)
  generalize hg2 : (s.heap.push { cls := .type "list", data := .seq #[] }).update S (Obj.mapSeq (fun _ => (#[] : Array Value))) = g2 at hS2 oth2
  have Z2 : ZAt g2 z TI TO i1 i2 l1 l2 xs ys 0 := Z1.keep nS oth2 fun _ => ⟨_, hS2⟩
  obtain ⟨oz, eoz, eoc⟩ := Z2.isZip
  unfold Builtin.List.listExtendWith
  refine wpAny_bind (wpAny_typeOf (T := "zip") ⟨oz, eoz, eoc⟩ ?_)
  have t1 : Builtin.List.listSameRef (.ref S) (.ref z) = false := by simp [Builtin.List.listSameRef, nS.1]
  have t2 : (Value.type "zip" == Value.type "list") = false := by decide
  have t3 : (Value.type "zip" == Value.type "tuple") = false := by decide
  simp only [t1, t2, t3, Bool.or_false, Bool.false_eq_true, if_false]
  have self0 : ∀ {Q : Value → Shared → Prop} {B : Around} {E : Value → Shared → Prop}, Q (.ref z) { s with heap := g2 } → wpAny (model prog w) B (pyIter (.ref z)) Q E { s with heap := g2 } := fun hq => by
    rcases Z2.zip with ⟨q, _⟩ | ⟨_, _, _, q, _⟩
    · exact wpAny_pyIter_zip q hq
    · rename_i T f o _
      have hT : Shared.TypeIs { s with heap := g2 } (.ref z) "zip" := ⟨_, q, rfl⟩
      refine wpAny_pyIter_slot hT F.slot_zip_iter (wpAny_call_entry F.slot_zip_iter hT F.entry_zip_iter ?_ (F.args_zip_iter_1 _))
      show wpAny _ _ (ret (.ref z)) _ _ _
      exact wpAny_pure ⟨_, rfl, "zip", _, hT, F.slot_zip_next.lookup, hq⟩
  refine wpAny_bind (self0 ?_)
  refine wpAny_bind (wpAny_holding ?_)
  unfold Builtin.List.listLengthHint
  refine wpAny_bind (wpAny_specialOf (T := "zip") ⟨oz, eoz, eoc⟩ zip_no_len ?_)
  show wpAny _ A.in1.in1 (specialOf (Value.ref z) (Str.ofString "__length_hint__") >>= _) _ _ _
  refine wpAny_bind (wpAny_specialOf (T := "zip") ⟨oz, eoz, eoc⟩ zip_no_hint ?_)
  refine wpAny_pure ?_
  show wpAny _ A.in1.in1 (rule "list.extend.makes-room" >>= fun _ => Builtin.List.listTouch (.ref S) >>= fun _ =>
    again (.builtin "list.extend.loop" ⟨[.ref S, .ref z, .none], []⟩)) _ _ _
  refine wpAny_bind (wpAny_rule ?_)
  refine wpAny_bind ?_
  show wpAny _ A.in1.in1 (updateSeq S (·.push .none) >>= fun _ => updateSeq S (·.pop)) _ _ _
  refine wpAny_bind (wpAny_updateSeq hS2 rfl ?_)
  have hS3 := Heap.get?_update_self (Obj.mapSeq (·.push Value.none)) hS2 rfl
  refine wpAny_updateSeq (hz := by seq_fits) hS3 rfl ?_
  have hS4 := Heap.get?_update_self (Obj.mapSeq (·.pop)) hS3 rfl
  have oth4 : ∀ b o, b ≠ S → g2.get? b = some o → ((g2.update S (Obj.mapSeq (·.push Value.none))).update S (Obj.mapSeq (·.pop))).get? b = some o :=
    fun b o hb e => (Heap.get?_update_other _ _ (Ne.symm hb)).trans ((Heap.get?_update_other _ _ (Ne.symm hb)).trans e)
  have hsz : S + 1 ≤ ((g2.update S (Obj.mapSeq (·.push Value.none))).update S (Obj.mapSeq (·.pop))).objs.size := Heap.lt_size hS4
  refine wpAny_pure ⟨plainId_quiet F.plain_extend_loop _, zip_loop (A := A.in1) hh D hn nS (S + 1) (fun b hb => ?_) .none _ 0 _ #[] _ rfl (Nat.zero_le _) (Z2.keep nS oth4 fun _ => ⟨_, hS4⟩) hsz hS4 rfl ⟨fun _ => 0, fun j hj => absurd hj (Nat.not_lt_zero _)⟩ fun h' acc' c' m h1 h2 h3 => ?_⟩
  · rcases List.mem_cons.mp hb with rfl | hb
    · exact Nat.lt_succ_self _
    · refine Nat.lt_succ_of_lt (hlt b ?_)
      simp only [List.mem_cons, List.not_mem_nil, or_false] at hb ⊢
      rcases hb with rfl | rfl | rfl | rfl <;> simp
  · refine ⟨rfl, hQ h' acc' c' (fun b o hb e => ?_) h1 h2 h3⟩
    have hbS : b ≠ S := fun z => hb (by rw [z]; exact List.mem_cons_self)
    exact m b o hb (oth4 b o hbS (oth2 b o hbS (push b o e)))
end
end DL
end

section
set_option Elab.async false
set_option linter.all false
set_option maxRecDepth 100000
set_option maxHeartbeats 1000000
/-! DLlz2: list(zip(a, b)), the rule. -/
namespace DL
open PySem PySem.Spec PyProof.Rows L2
def zipH (H : Hp) (S : Addr) (t : Nat → Addr) (n : Nat) (xs ys : List V) : Hp := fun b => if b = S then some (.lst ((List.range n).map fun j => V.ref (t j))) else
  match (List.range n).find? (fun j => t j == b) with
  | some j => some (.tup [xs.getD j .non, ys.getD j .non])
  | none => H b
section
variable {H : Hp} {S : Addr} {t : Nat → Addr} {n : Nat} {xs ys : List V} {b : Addr}
theorem zipH_S : zipH H S t n xs ys S = some (.lst ((List.range n).map fun j => V.ref (t j))) := by
  unfold zipH
  rw [if_pos rfl]
theorem zipH_t {j : Nat} (hj : j < n) (hS : t j ≠ S) (inj : ∀ j k, j < k → k < n → t j ≠ t k) : zipH H S t n xs ys (t j) = some (.tup [xs.getD j .non, ys.getD j .non]) := by
  unfold zipH
  rw [if_neg hS]
  have : (List.range n).find? (fun i => t i == t j) = some j := by
    rw [List.find?_range_eq_some]
    refine ⟨by simp, List.mem_range.mpr hj, fun i hi => ?_⟩
    simpa using inj i j hi hj
  rw [this]
theorem zipH_o (hS : b ≠ S) (ht : ∀ j, j < n → t j ≠ b) : zipH H S t n xs ys b = H b := by
  unfold zipH
  rw [if_neg hS]
  have : (List.range n).find? (fun i => t i == b) = none := by
    rw [List.find?_eq_none]
    intro i hi
    simpa using ht i (List.mem_range.mp hi)
  rw [this]
theorem zipH_cases {u : HO} (e : zipH H S t n xs ys b = some u) : b = S ∨ (∃ j, j < n ∧ t j = b) ∨ H b = some u := by
  by_cases hS : b = S
  · exact .inl hS
  · by_cases ht : ∃ j, j < n ∧ t j = b
    · exact .inr (.inl ht)
    · rw [zipH_o hS fun j hj z => ht ⟨j, hj, z⟩] at e
      exact .inr (.inr e)
end
section
variable {X : Cx} {pins : List (Addr × Obj)} {σ : L2.St} {H : Hp} {s : Shared} {h' : Heap} {fp : List Addr} {S : Addr} {t : Nat → Addr} {n : Nat} {xs ys : List V}
theorem inv_zipped (I : Inv X pins σ H s) (hf : ∀ c ∈ fp, FpOk X pins H c) (hex : ∀ c ∈ fp, X.s_0.heap.objs.size ≤ c) (k : ∀ b o, b ∉ fp → s.heap.get? b = some o → h'.get? b = some o)
    (hS : s.heap.objs.size ≤ S) (ht : ∀ j, j < n → s.heap.objs.size ≤ t j ∧ t j ≠ S) (inj : ∀ j k, j < k → k < n → t j ≠ t k)
    (oS : ObjOk X.prog X.w (zipH H S t n xs ys) h' S (.lst ((List.range n).map fun j => V.ref (t j)))) (ot : ∀ j, j < n → ObjOk X.prog X.w (zipH H S t n xs ys) h' (t j) (.tup [xs.getD j .non, ys.getD j .non])) :
    Inv X pins σ (zipH H S t n xs ys) { s with heap := h' } := by
  have old : ∀ b, b < s.heap.objs.size → zipH H S t n xs ys b = H b := fun b hb => zipH_o (fun z => by rw [z] at hb; exact absurd hb (Nat.not_lt.mpr hS)) fun j hj z => by
    rw [← z] at hb
    exact absurd hb (Nat.not_lt.mpr (ht j hj).1)
  have lt0 : ∀ b o, X.s_0.heap.get? b = some o → b < X.s_0.heap.objs.size := fun b o e => Heap.lt_size e
  have sz := I.sz
  have nfp : ∀ b, b < X.s_0.heap.objs.size → b ∉ fp := fun b hb z => absurd hb (Nat.not_lt.mpr (hex b z))
  have grow : ∀ b u, H b = some u → zipH H S t n xs ys b = some u := fun b u e => by
    have : b < s.heap.objs.size := by
      apply Classical.byContradiction
      intro z
      rw [I.hok.fresh (Nat.not_lt.mp z)] at e
      cases e
    rw [old b this]
    exact e
  refine ⟨I.ok, I.os, I.bare, ?_, ?_, ?_, ?_, ?_, ?_, ?_, I.len⟩
  · refine ⟨fun b o e h1 h2 h3 => k b o (nfp b (lt0 b o e)) (I.base.keep b o e h1 h2 h3), fun b o e h1 h2 h3 => ?_, fun b o e h1 h2 => ?_, fun b o e h1 => ?_, fun b xs e => grow b _ (I.base.tups b xs e), fun b o u e => grow b _ (I.base.frzs b o u e), fun b ps e => ?_⟩
    · obtain ⟨sl, e2⟩ := I.base.slot b o e h1 h2 h3
      exact ⟨sl, k b _ (nfp b (lt0 b o e)) e2⟩
    · rw [old b (Nat.lt_of_lt_of_le (lt0 b o e) sz)]
      exact I.base.free b o e h1 h2
    · obtain ⟨o', e2⟩ := I.base.there b o e h1
      exact ⟨o', k b o' (nfp b (lt0 b o e)) e2⟩
    · obtain ⟨more, e2⟩ := I.base.tbls b ps e
      exact ⟨more, grow b _ e2⟩
  · obtain ⟨m, ⟨o, es, ep, e1, e2, e3, e4⟩, hl⟩ := I.loc
    refine ⟨m, ⟨o, es, ep, k _ _ (fun z => (hf _ z).2.1 rfl) e1, e2, e3, e4⟩, fun i x v a b c => ?_⟩
    obtain ⟨u, r, l⟩ := hl i x v a b c
    refine ⟨u, r, l.elim .inl fun ⟨h1, c, h2, h3⟩ => .inr ⟨h1, c, h2, ?_⟩⟩
    obtain ⟨o, e1, e2⟩ := h3
    exact ⟨o, k c _ (fun z => (hf _ z).2.2.2.2.1 x c h2 rfl) e1, e2⟩
  · intro x c h
    obtain ⟨v, hv⟩ := I.cell x c h
    obtain ⟨o, e1, e2⟩ := hv
    exact ⟨v, o, k c _ (fun z => (hf _ z).2.2.2.2.1 x c h rfl) e1, e2⟩
  · obtain ⟨m, ⟨o, es, ep, e1, e2, e3, e4⟩, hl⟩ := I.loc
    rw [old _ (Heap.lt_size e1)]
    exact I.free
  · intro x c h
    obtain ⟨v, hv⟩ := I.cell x c h
    obtain ⟨o, e1, e2⟩ := hv
    rw [old _ (Heap.lt_size e1)]
    exact I.freeC x c h
  · intro p hp
    obtain ⟨h1, h2, h3, h4, h5⟩ := I.pin p hp
    exact ⟨k _ _ (fun z => (hf _ z).2.2.2.2.2 p hp rfl) h1, by rw [old _ (Heap.lt_size h1)]; exact h2, h3, h4, h5⟩
  · intro b u e
    rcases zipH_cases e with rfl | ⟨j, hj, rfl⟩ | e2
    · rw [zipH_S] at e
      cases e
      exact oS
    · rw [zipH_t hj (ht j hj).2 inj] at e
      cases e
      exact ot j hj
    · refine (I.hok b u e2).stay (fun c o hc z => k c o (fun w => ?_) z) (fun c z => grow c _ z) fun c xs z => grow c _ z
      have := (hf c w).1
      rcases hc with rfl | hc
      · rw [this] at e2; cases e2
      · rw [this] at hc; cases hc
end
theorem vals_get {vs : List V} {us : List Value} (h : Vals vs us) : ∀ {i : Nat} {u : Value}, us[i]? = some u → ∃ v, vs[i]? = some v ∧ RelV v u := by
  induction h with
  | nil => intro i u e; simp at e
  | cons r _ ih =>
    intro i u e
    cases i with
    | zero => simp at e; subst e; exact ⟨_, rfl, r⟩
    | succ i => exact ih (by simpa using e)
theorem vals_len {vs : List V} {us : List Value} (h : Vals vs us) : vs.length = us.length := by
  induction h with
  | nil => rfl
  | cons _ _ ih => simp [ih]
theorem vals_of : ∀ {vs : List V} {us : List Value}, vs.length = us.length → (∀ (i : Nat) (v : V) (u : Value), vs[i]? = some v → us[i]? = some u → RelV v u) → Vals vs us
  | [], [], _, _ => .nil
  | v :: vs, u :: us, h, r => .cons (r 0 v u rfl rfl) (vals_of (by simpa using h) fun i a b x y => r (i + 1) a b (by simpa using x) (by simpa using y))
theorem rpAll_get {K : PySem.W.Frag} {F : Addr → Prop} {H : Hp} : ∀ {vs : List V} {ds : List D}, vs.length = ds.length → (∀ (i : Nat) (v : V) (d : D), vs[i]? = some v → ds[i]? = some d → Rp K F H v d) → RpAll K F H vs ds
  | [], [], _, _ => .nil
  | v :: vs, u :: us, h, r => .cons (r 0 v u rfl rfl) (rpAll_get (by simpa using h) fun i a b x y => r (i + 1) a b (by simpa using x) (by simpa using y))
def tListZip (X : Cx) (ta : TA) : TE := fun σ H Q => tCons (tZip X ta) tNil σ H fun vs H2 => ∃ z fp h0 a b xs ys H1, vs = [.ref z] ∧ H2 = extH H1 h0 fp ∧ ZRd z fp h0 a b ∧ (∀ c ∈ fp, X.s_0.heap.objs.size ≤ c) ∧ (∀ c ∈ fp, H1 c = none) ∧ SqL X.K H1 a xs ∧ SqL X.K H1 b ys ∧
  ∀ S t, H1 S = none → (∀ j, j < min xs.length ys.length → H1 (t j) = none ∧ t j ≠ S) → (∀ j k, j < k → k < min xs.length ys.length → t j ≠ t k) → Q (.ref S) (zipH H1 S t (min xs.length ys.length) xs ys)
section
variable {X : Cx} {ta : TA} {e e2 : Expr} {p pos pos' p' : Pos}
theorem pe_listZip (hc : X.calm = true) (hg : Gl X "list") (hm : X.mg "list" = none) (hg2 : Gl X "zip") (hm2 : X.mg "zip" = none) (ha : PA X [e, e2] ta) (hs : starEach [e, e2] X.env = (false, eval e X.env) :: starEach [e2] X.env := by rfl) (hpl : (backTo pos (starEach [e2] X.env)).any (·.1) = false := by rfl)
    (n2 : starEach [.Call (.Name "zip" p) [e, e2] [] pos] X.env = (false, eval (.Call (.Name "zip" p) [e, e2] [] pos) X.env) :: starEach [] X.env := by rfl) :
    PE X (.Call (.Name "list" p') [.Call (.Name "zip" p) [e, e2] [] pos] [] pos') (tListZip X ta) := by
  refine ⟨fun pins s σ H Q I h => ?_⟩
  refine Call_ (ld_blt I hg hm PyProof.Rows.boot_list (PyProof.Rows.callWith_type1 (thn ((pa_cons (pe_zipV hg2 hm2 ha hs hpl) pa_nil n2).run pos' pins s σ H _ I h) fun us s1 ⟨vs, H2, I2, r, z, fp, h0, a, b, xs, ys, H1, ev, eH, rd, hy, hf, hqx, hqy, q⟩ => ?_) n2 (by rfl)))
  subst ev
  subst eH
  cases r with
  | cons r rr =>
    cases rr
    cases r
    have I1 := inv_unext I2 hf
    obtain ⟨TI, TO, i1, i2, rfl, D, q1, q2, ⟨x0, y0, q3⟩, ⟨o4, q4, q4'⟩, ⟨o5, q5, q5'⟩⟩ := rd
    have keep : ∀ c ∈ [z, TI, TO, i1, i2], s1.heap.get? c = h0.get? c := fun c hc => (I2.hok c _ (extH_in hc)).1
    obtain ⟨its, rv, p1, lx⟩ := I1.list hqx
    obtain ⟨its2, rv2, p2, ly⟩ := I1.list hqy
    have Z : ZAt s1.heap z TI TO i1 i2 a b its.toArray its2.toArray 0 := ⟨.inl ⟨(keep _ (by simp)).trans q1, x0, y0, (keep _ (by simp)).trans q3⟩, (keep _ (by simp)).trans q2, ⟨o4, (keep _ (by simp)).trans q4, q4'⟩, ⟨o5, (keep _ (by simp)).trans q5, q5'⟩, p1.isList, p2.isList⟩
    have l1 := vals_len rv
    have l2 := vals_len rv2
    have lt : ∀ c ∈ [z, TI, TO, i1, i2], c < s1.heap.objs.size := fun c hc => by
      obtain ⟨o, eo⟩ := ZRd.there (h0 := h0) (a := a) (b := b) ⟨TI, TO, i1, i2, rfl, D, q1, q2, ⟨x0, y0, q3⟩, ⟨o4, q4, q4'⟩, ⟨o5, q5, q5'⟩⟩ c hc
      exact Heap.lt_size ((keep c hc).trans eo)
    refine call_list_zip (I1.ok.hd hc) D (by simp; omega) Z (fun c hc => ?_) fun h' acc c kk hS hsz hP => ?_
    · simp only [List.mem_cons, List.not_mem_nil, or_false] at hc
      rcases hc with rfl | rfl | rfl | rfl | rfl | rfl | rfl
      · exact lt _ (by simp)
      · exact lt _ (by simp)
      · exact lt _ (by simp)
      · exact lt _ (by simp)
      · exact lt _ (by simp)
      · exact p1.lt
      · exact p2.lt
    · obtain ⟨t, hP⟩ := hP
      have hn : min its.toArray.size its2.toArray.size = min xs.length ys.length := by simp [l1, l2]
      rw [hn] at hP hsz
      have inj : ∀ j k, j < k → k < min xs.length ys.length → t j ≠ t k := fun j k hjk hk => by
        obtain ⟨_, _, _, lt'⟩ := hP k hk
        exact Nat.ne_of_lt (lt' j hjk)
      have ht : ∀ j, j < min xs.length ys.length → s1.heap.objs.size ≤ t j ∧ t j ≠ s1.heap.objs.size := fun j hj => by
        obtain ⟨_, _, ge, _⟩ := hP j hj
        exact ⟨Nat.le_of_succ_le ge, fun w => by rw [w] at ge; exact absurd ge (Nat.not_succ_le_self _)⟩
      refine ⟨.ref s1.heap.objs.size, _, inv_zipped (fp := [z, TI, TO, i1, i2]) I1 (fun c hc => fp_ext I2 hf hy hc) hy (fun b o hb e => kk b o (fun w => ?_) e) (Nat.le_refl _) ht inj ?_ ?_, rfl, q _ t (I1.hok.fresh (Nat.le_refl _)) (fun j hj => ⟨I1.hok.fresh (ht j hj).1, (ht j hj).2⟩) inj⟩
      · simp only [List.mem_cons, List.not_mem_nil, or_false, not_or] at hb w
        rcases w with rfl | rfl | rfl | rfl | rfl
        · exact absurd (Heap.lt_size e) (Nat.lt_irrefl _)
        · exact hb.1 rfl
        · exact hb.2.2.1 rfl
        · exact hb.2.2.2.1 rfl
        · exact hb.2.2.2.2 rfl
      · unfold ObjOk
        refine ⟨by simp; omega, acc.toList, c, vals_of (by simp [hsz]) fun i v u e1 e2 => ?_, hS⟩
        have hi : i < min xs.length ys.length := by
          have := (List.getElem?_eq_some_iff.mp e1).1
          simpa using this
        obtain ⟨g, _⟩ := hP i hi
        have e1' : v = .ref (t i) := by
          rw [List.getElem?_map, List.getElem?_range hi] at e1
          simpa using e1.symm
        have e2' : u = .ref (t i) := by
          have : acc.toList[i]? = acc[i]? := by simp
          rw [this, g] at e2
          exact (Option.some.inj e2).symm
        rw [e1', e2']
        rfl
      · intro j hj
        obtain ⟨_, ⟨x, y, g1, g2, g3⟩, _⟩ := hP j hj
        unfold ObjOk
        have g1' : its[j]? = some x := by simpa using g1
        have g2' : its2[j]? = some y := by simpa using g2
        obtain ⟨v1, f1, r1⟩ := vals_get rv g1'
        obtain ⟨v2, f2, r2⟩ := vals_get rv2 g2'
        refine ⟨by simp [sizeLine_eq], [x, y], .cons ?_ (.cons ?_ .nil), ⟨_, g3, rfl, 0, rfl⟩⟩
        · rw [List.getD_eq_getElem?_getD, f1]
          exact r1
        · rw [List.getD_eq_getElem?_getD, f2]
          exact r2
end
theorem snd_listZip {X : Cx} {ta : TA} {fr : DA} (a : SndA X.K ta fr) : SndE X.K (tListZip X ta) (dListZip fr) := by
  intro H0 M st σ F H r st' Q S e q
  obtain ⟨p, e1, e⟩ := bs e
  obtain ⟨⟨ys, s2⟩, e2, e⟩ := bs e
  obtain ⟨zs, e3, e⟩ := bs e
  cases e
  refine a H0 M st σ F H p.1 p.2 _ S e1 fun us F1 H1 S1 E1 f1 r1 => ?_
  obtain ⟨F2, S2, E2, rr, _, _, f2⟩ := toDs_ok S1 E1 r1 e2
  match ys, us, rr, e3 with
  | [.list m, .list n], [_, _], .cons (.lst (xs := vx) h1 rx) (.cons (.lst (xs := vy) h2 ry) .nil), e3 =>
    cases e3
    refine ⟨_, _, _, _, rfl, h1.sql, h2.sql, fun z fp h0 rd hy hf => ?_⟩
    refine ⟨z, fp, h0, _, _, _, _, H1, rfl, rfl, rd, hy, hf, h1.sql, h2.sql, fun T t hT ht inj => ?_⟩
    have lx := rx.length
    have ly := ry.length
    have gr : Same H1 (zipH H1 T t (min vx.length vy.length) vx vy) := fun b u e => by
      rw [zipH_o (fun z => ?_) fun j hj z => ?_]
      · exact e
      · rw [z, hT] at e; cases e
      · rw [← z, (ht j hj).1] at e; cases e
    have key : RpAll X.K F2 (zipH H1 T t (min vx.length vy.length) vx vy) ((List.range (min vx.length vy.length)).map fun j => V.ref (t j)) ((m.zip n).map fun p => PyData.tuple [p.1, p.2]) := by
      refine rpAll_get (by simp [lx, ly]) fun i v d g1 g2 => ?_
      have hi : i < min vx.length vy.length := by
        have := (List.getElem?_eq_some_iff.mp g1).1
        simpa using this
      have e1' : v = .ref (t i) := by
        rw [List.getElem?_map, List.getElem?_range hi] at g1
        simpa using g1.symm
      obtain ⟨x, y, k1, k2, rfl⟩ : ∃ x y, m[i]? = some x ∧ n[i]? = some y ∧ d = .tuple [x, y] := by
        have i1 : i < m.length := by omega
        have i2 : i < n.length := by omega
        refine ⟨m[i], n[i], List.getElem?_eq_getElem i1, List.getElem?_eq_getElem i2, ?_⟩
        rw [List.getElem?_map, List.getElem?_eq_getElem (by simp; omega), List.getElem_zip] at g2
        simpa using g2.symm
      obtain ⟨v1, f1, r1⟩ := rx.get k1
      obtain ⟨v2, f2, r2⟩ := ry.get k2
      rw [e1']
      refine .tup (SqT.of (zipH_t hi (ht i hi).2 inj)) (.cons ?_ (.cons ?_ .nil))
      · rw [List.getD_eq_getElem?_getD, f1]
        exact r1.grow gr
      · rw [List.getD_eq_getElem?_getD, f2]
        exact r2.grow gr
    obtain ⟨S3, E3, r3⟩ := fin_new (z := .tmp ((m.zip n).map fun p => PyData.tuple [p.1, p.2])) S2 E2 gr ⟨T, _, rfl, hT, zipH_S, key⟩
    exact q _ F2 _ S3 E3 (f1.trans f2) r3
theorem se_listZip {K : PySem.W.Frag} {X : Cx} {e e2 : Expr} {p pos pos' p' : Pos} {ta : TA} {fr : DA} (hc : X.calm = true) (hg : Gl X "list") (hm : X.mg "list" = none) (hg2 : Gl X "zip") (hm2 : X.mg "zip" = none) (ha : SA K X [e, e2] ta fr)
    (hs : starEach [e, e2] X.env = (false, eval e X.env) :: starEach [e2] X.env := by rfl) (hpl : (backTo pos (starEach [e2] X.env)).any (·.1) = false := by rfl)
    (n2 : starEach [.Call (.Name "zip" p) [e, e2] [] pos] X.env = (false, eval (.Call (.Name "zip" p) [e, e2] [] pos) X.env) :: starEach [] X.env := by rfl) (hK : X.K = K := by rfl) :
    SE K X (.Call (.Name "list" p') [.Call (.Name "zip" p) [e, e2] [] pos] [] pos') (tListZip X ta) (dListZip fr) := by
  subst hK
  exact ⟨pe_listZip hc hg hm hg2 hm2 ha.pe hs hpl n2, snd_listZip ha.sn⟩
end DL
end

section
set_option Elab.async false
set_option linter.all false
set_option maxRecDepth 100000
set_option maxHeartbeats 1000000
/-! DLdat: in, index, count, pop, remove over data. -/
namespace DL
open PySem PySem.Spec PyProof.Rows L2
theorem flat_list_in {ys : List D} (h : flat (.list ys) = true) : PyData.plainAll ys = true ∧ PyData.depthAll ys ≤ 63 := by
  have h1 := flat_plain h
  have h2 := flat_depth h
  simp only [PyData.plain] at h1
  simp only [PyData.depth] at h2
  exact ⟨h1, by omega⟩
theorem flat_tup_in {ys : List D} (h : flat (.tuple ys) = true) : PyData.plainAll ys = true ∧ PyData.depthAll ys ≤ 63 := by
  have h1 := flat_plain h
  have h2 := flat_depth h
  simp only [PyData.plain] at h1
  simp only [PyData.depth] at h2
  exact ⟨h1, by omega⟩
section
variable {X : Cx} {K : PySem.W.Frag}
def rInP (K : PySem.W.Frag) (neg : Bool) : R2 := fun x y H Q => ∃ d e b, Dp K H x d ∧ Dp K H y e ∧ inD d e = some b ∧ Q (.bl (if neg then !b else b)) H
theorem inD_cases {d e : D} {b : Bool} (h : inD d e = some b) : (∃ ys, e = .list ys ∧ flat d = true ∧ flat (.list ys) = true ∧ b = ys.any fun y => PyData.eqv y d) ∨ (∃ ys, e = .tuple ys ∧ flat d = true ∧ flat (.tuple ys) = true ∧ b = ys.any fun y => PyData.eqv y d) := by
  cases e with
  | list ys =>
    have h : (if flat d = true ∧ flat (.list ys) = true then some (ys.any fun y => PyData.eqv y d) else none) = some b := h
    split at h
    · rename_i c
      cases h
      exact .inl ⟨ys, rfl, c.1, c.2, rfl⟩
    · cases h
  | tuple ys =>
    have h : (if flat d = true ∧ flat (.tuple ys) = true then some (ys.any fun y => PyData.eqv y d) else none) = some b := h
    split at h
    · rename_i c
      cases h
      exact .inr ⟨ys, rfl, c.1, c.2, rfl⟩
    · cases h
  | _ => cases h
theorem op_inP (hu : X.A.units + 64 < cLine) : OpR X (compareOp .In) (rInP X.K false) := by
  intro pins s σ H x y v u Q I rx ry h
  obtain ⟨d, e, b, hd, he, hb, q⟩ := h
  obtain ⟨as, r1⟩ := Dp.reads I d x v hd rx
  obtain ⟨bs, r2⟩ := Dp.reads I e y u he ry
  rcases inD_cases hb with ⟨ys, rfl, f1, f2, rfl⟩ | ⟨ys, rfl, f1, f2, rfl⟩
  · obtain ⟨p1, p2⟩ := flat_list_in f2
    exact SeqAt.in_list_data r2 r1 p1 (flat_plain f1) (by have := Nat.min_le_left (PyData.depthAll ys) d.depth; omega) ⟨.bl _, H, I, rfl, q⟩
  · obtain ⟨p1, p2⟩ := flat_tup_in f2
    exact SeqAt.in_tuple_data r2 r1 p1 (flat_plain f1) (by have := Nat.min_le_left (PyData.depthAll ys) d.depth; omega) ⟨.bl _, H, I, rfl, q⟩
theorem op_notInP (hu : X.A.units + 64 < cLine) : OpR X (compareOp .NotIn) (rInP X.K true) := by
  intro pins s σ H x y v u Q I rx ry h
  obtain ⟨d, e, b, hd, he, hb, q⟩ := h
  obtain ⟨as, r1⟩ := Dp.reads I d x v hd rx
  obtain ⟨bs, r2⟩ := Dp.reads I e y u he ry
  rcases inD_cases hb with ⟨ys, rfl, f1, f2, rfl⟩ | ⟨ys, rfl, f1, f2, rfl⟩
  · obtain ⟨p1, p2⟩ := flat_list_in f2
    exact SeqAt.notIn_list_data r2 r1 p1 (flat_plain f1) (by have := Nat.min_le_left (PyData.depthAll ys) d.depth; omega) ⟨.bl _, H, I, rfl, q⟩
  · obtain ⟨p1, p2⟩ := flat_tup_in f2
    exact SeqAt.notIn_tuple_data r2 r1 p1 (flat_plain f1) (by have := Nat.min_le_left (PyData.depthAll ys) d.depth; omega) ⟨.bl _, H, I, rfl, q⟩
theorem inD_flat {d e : D} {b : Bool} (h : inD d e = some b) : flat d = true ∧ flat e = true := by
  rcases inD_cases h with ⟨ys, rfl, f1, f2, _⟩ | ⟨ys, rfl, f1, f2, _⟩ <;> exact ⟨f1, f2⟩
theorem prim_inP : Prim2 K (rInP K false) opInD := by
  intro F H v w x y z Q a b e q
  obtain ⟨c, e1, e2⟩ := bs e
  cases e2
  obtain ⟨f1, f2⟩ := inD_flat e1
  exact ⟨x, y, c, a.dp (flat_noDict f1), b.dp (flat_noDict f2), e1, by rw [if_neg (by decide)]; exact q _ H Same.rfl' (.bl _)⟩
theorem prim_notInP : Prim2 K (rInP K true) opNotInD := by
  intro F H v w x y z Q a b e q
  obtain ⟨c, e1, e2⟩ := bs e
  cases e2
  obtain ⟨f1, f2⟩ := inD_flat e1
  exact ⟨x, y, c, a.dp (flat_noDict f1), b.dp (flat_noDict f2), e1, by rw [if_pos rfl]; exact q _ H Same.rfl' (.bl _)⟩
/-! ### list.remove of data -/
def rRemP (K : PySem.W.Frag) : V → List V → Hp → VK → Prop := fun x xs H Q => ∃ (l : Addr) (y : V) (vs : List V) (d : D) (ds : List D) (j : Nat), x = .ref l ∧ xs = [y] ∧ H l = some (.lst vs) ∧ DpAll K H vs ds ∧ Dp K H y d ∧
  flat d = true ∧ flat (.list ds) = true ∧ (ds.findIdx? fun y => PyData.eqv y d) = some j ∧ Q .non (upd H l (.lst (vs.eraseIdx j)))
theorem mt_removeP (hu : X.A.units + 64 < cLine) : MtM X "list.remove" (rRemP X.K) := by
  intro pins s σ H x xs v us Q I rx rxs h
  obtain ⟨l, y, vs, d, ds, j, rfl, rfl, hH, hds, hd, f1, f2, hj, q⟩ := h
  cases rx
  obtain ⟨u, rfl, ru⟩ := rxs.one
  obtain ⟨z, its, n, r, hl, e⟩ := I.lstM hH
  obtain ⟨as, r1⟩ := Dp.readsAll I ds vs its hds r
  obtain ⟨bs, r2⟩ := Dp.reads I d y u hd ru
  obtain ⟨p1, p2⟩ := flat_list_in f2
  refine SeqAt.remove_list_data (vs := its.toArray) (j := j) ⟨_, e, rfl, n, rfl⟩ (by simpa using r1) r2 p1 (flat_plain f1) (by have := Nat.min_le_left (PyData.depthAll ds) d.depth; omega) hj (by rw [List.size_toArray]; omega) ?_
  refine ⟨.non, _, I.lset (its' := its.eraseIdx j) hH e ?_ (r.eraseIdx j) ?_, rfl, q⟩
  · show its.toArray.eraseIdxIfInBounds j = (its.eraseIdx j).toArray
    rw [List.eraseIdxIfInBounds_toArray]
  · have := len_erase vs j
    omega
theorem RpAll.eraseIdx {F : Addr → Prop} {H : Hp} : ∀ {vs : List V} {ds : List D}, RpAll K F H vs ds → ∀ j : Nat, RpAll K F H (vs.eraseIdx j) (ds.eraseIdx j)
  | _, _, .nil, _ => .nil
  | _, _, .cons _ b, 0 => b
  | _, _, .cons a b, j + 1 => .cons a (RpAll.eraseIdx b j)
theorem snd_removeD {i : Nat} {te : TE} {f : DE} (a : SndE K te f) : SndS K (tDrop (tBM K "list" (rRemP K) (tVar i) (tCons te tNil))) (dRemoveD i f) := by
  intro H0 M st σ F H fl st' E S e q
  obtain ⟨zs, e0, e⟩ := bs e
  obtain ⟨p, e1, e⟩ := bs e
  obtain ⟨w, e2, e⟩ := bs e
  obtain ⟨xs, e3, e⟩ := bs e
  obtain ⟨p0, vs0, a1, a2, _⟩ := getL_ok S e0
  refine ⟨.ref p0, a1, .inl ⟨rfl, _, SqL.of a2⟩, ?_⟩
  refine a H0 M st σ F H p.1 p.2 _ S e1 fun v F1 H1 S1 E1 f1 r1 => ?_
  obtain ⟨F2, S2, E2, r2, _⟩ := toD_ok S1 E1 r1.weak e2
  have e : (if flat w.1 = true ∧ flat (.list xs) = true then (xs.findIdx? fun y => PyData.eqv y w.1).bind fun j => (putL w.2 i (xs.eraseIdx j)).bind fun s => some (Fl.nx, s) else none) = some (fl, st') := e
  by_cases c : flat w.1 = true ∧ flat (.list xs) = true
  · rw [if_pos c] at e
    obtain ⟨j, e4, e⟩ := bs e
    obtain ⟨s, e5, e⟩ := bs e
    cases e
    obtain ⟨p1, vs, b1, b2, b3, o⟩ := getL_ok S2 e3
    rw [a1] at b1
    cases b1
    obtain ⟨S3, E3⟩ := S2.put o a1 (b3.eraseIdx j) e5
    have nd := flat_noDict c.2
    simp only [PyData.hasDict] at nd
    exact ⟨p0, v, vs, w.1, xs, j, rfl, rfl, b2, b3.dp nd, r2.dp (flat_noDict c.1), c.1, c.2, e4, q σ F2 _ S3 ((E2.fext S S2).trans E3)⟩
  · rw [if_neg c] at e
    cases e
theorem ss_removeD (i : Nat) {e call : Expr} {pos : Pos} {te : TE} {f : DE} (hp : PE X e te → PE X call (tBM K "list" (rRemP K) (tVar i) (tCons te tNil))) (he : SE K X e te f) (hs : swapsWith call none pos.line X.env = pure false := by rfl) (hK : X.K = K := by rfl) :
    SS K X (.Expr call pos) (tDrop (tBM K "list" (rRemP K) (tVar i) (tCons te tNil))) (dRemoveD i f) := by
  subst hK
  exact ⟨ps_expr (hp he.pe) hs, snd_removeD he.sn⟩
/-! ### xs.pop(k) -/
theorem ixAt_seq {α : Type} {xs : List α} {j : Int} {n : Nat} (h : ixAt xs j = some n) : seqIndex? j xs.length = some n ∧ n < xs.length := by
  unfold ixAt at h
  by_cases h0 : 0 ≤ j
  · rw [if_pos h0] at h
    by_cases h1 : j < xs.length
    · rw [if_pos h1] at h
      cases h
      exact ⟨seqIndex_of h0 h1, by omega⟩
    · rw [if_neg h1] at h
      cases h
  · rw [if_neg h0] at h
    by_cases h1 : -(xs.length : Int) ≤ j
    · rw [if_pos h1] at h
      cases h
      refine ⟨seqIndex_neg (by omega) h1, by omega⟩
    · rw [if_neg h1] at h
      cases h
theorem Ext.put {st st' : DSt} {σ : L2.St} {F : Addr → Prop} {H : Hp} {i : Nat} {p : Addr} {vs : List V} {xs : List D} (o : IsOwn st i) (e : σ[i]? = some (some (.ref p))) (pu : putL st i xs = some st') : Ext st σ F H st' F (upd H p (.lst vs)) := by
  have hi : i < st.length := by
    obtain ⟨ys, h | h⟩ := o
    · exact getD_lt h
    · exact getD_lt h
  have sp : (∃ ys, st.getD i none = some (.own ys) ∧ st' = st.set i (some (.own xs))) ∨ (∃ ys, st.getD i none = some (.lent ys) ∧ st' = st.set i (some (.lent xs))) := by
    unfold putL at pu
    obtain ⟨ys, h | h⟩ := id o
    · rw [h] at pu
      cases pu
      exact .inl ⟨ys, h, rfl⟩
    · rw [h] at pu
      cases pu
      exact .inr ⟨ys, h, rfl⟩
  refine ⟨fun _ h => h, fun _ h => .inl h, fun b u hb n => ?_, fun b hb => ?_, fun j h => ?_⟩
  · rw [upd_ne (by rintro rfl; exact n ⟨i, o, e⟩)]
    exact hb
  · by_cases c : b = p
    · rw [c, upd_same]
      exact fun z => by cases z
    · rw [upd_ne c]
      exact hb
  · by_cases ij : i = j
    · subst ij
      exact o
    · obtain ⟨ys, h⟩ := h
      have other : st'.getD j none = st.getD j none := by
        rcases sp with ⟨ys, _, rfl⟩ | ⟨ys, _, rfl⟩
        · rw [getD_set hi, if_neg ij]
        · rw [getD_set hi, if_neg ij]
      rw [other] at h
      exact ⟨ys, h⟩
theorem snd_pop {i : Nat} {te : TE} {f : DE} (a : SndE K te f) : SndE K (tBM K "list" rPopAt (tVar i) (tCons te tNil)) (dPop i f) := by
  intro H0 M st σ F H r st' Q S e q
  obtain ⟨zs, e0, e⟩ := bs e
  obtain ⟨p, e1, e⟩ := bs e
  obtain ⟨p0, vs0, a1, a2, _⟩ := getL_ok S e0
  refine ⟨.ref p0, a1, .inl ⟨rfl, _, SqL.of a2⟩, ?_⟩
  refine a H0 M st σ F H p.1 p.2 _ S e1 fun v F1 H1 S1 E1 f1 r1 => ?_
  cases el : look p.2 p.1 with
  | none => rw [el] at e; cases e
  | some x =>
    rw [el] at e
    match x, e, el with
    | .int j, e, el =>
      have hv := (look_ok S1 r1.weak el).int
      subst hv
      have e : (if -(2 ^ 63) ≤ j ∧ j < 2 ^ 63 then (getL p.2 i).bind fun xs => (ixAt xs j).bind fun n => (xs[n]?).bind fun x => (putL p.2 i (xs.eraseIdx n)).bind fun s => some (Rv.d x, s) else none) = some (r, st') := e
      by_cases c : -(2 ^ 63) ≤ j ∧ j < 2 ^ 63
      · rw [if_pos c] at e
        obtain ⟨xs, e3, e⟩ := bs e
        obtain ⟨n, e4, e⟩ := bs e
        obtain ⟨x, e5, e⟩ := bs e
        obtain ⟨s, e6, e⟩ := bs e
        cases e
        obtain ⟨p1, vs, b1, b2, b3, o⟩ := getL_ok S1 e3
        rw [a1] at b1
        cases b1
        obtain ⟨w, g1, g2⟩ := b3.get e5
        obtain ⟨h1, h2⟩ := ixAt_seq e4
        have S3 := (S1.put o a1 (b3.eraseIdx n) e6).1
        have E3 := Ext.put (F := F1) (H := H1) (vs := vs.eraseIdx n) o a1 e6
        refine ⟨p0, vs, j, n, w, rfl, rfl, b2, c.1, c.2, by rw [b3.length]; exact h1, g1, ?_⟩
        exact q w F1 _ S3 (E1.trans E3) (f1.trans trivial) (E3.rp S1 g2)
      · rw [if_neg c] at e
        cases e
    | .none, e, _ => cases e
    | .bool _, e, _ => cases e
    | .str _, e, _ => cases e
    | .list _, e, _ => cases e
    | .tuple _, e, _ => cases e
    | .dict _, e, _ => cases e
theorem se_pop (i : Nat) {e call : Expr} {te : TE} {f : DE} (hp : PE X e te → PE X call (tBM K "list" rPopAt (tVar i) (tCons te tNil))) (he : SE K X e te f) :
    SE K X call (tBM K "list" rPopAt (tVar i) (tCons te tNil)) (dPop i f) := ⟨hp he.pe, snd_pop he.sn⟩
end
end DL
end

section
set_option Elab.async false
set_option linter.all false
set_option maxRecDepth 100000
set_option maxHeartbeats 1000000
/-! DLend: what a walk printed by dl_gen wants besides: bindings, defs without a turn left, the law. -/
namespace DL
open PySem PySem.Spec PyProof.Rows L2
theorem dl_both {K : PySem.W.Frag} {X : Cx} {st : List Stmt} {t : TS} {f : DS} (h : SSs K X st t f) : PSs X st t ∧ SndS K t f := ⟨h.pe, h.sn⟩
section
variable {P : Program} {w : World} {K : PySem.W.Frag} {mg : Str → Option Value} {base : Heap} {x ql : Str} {st : Stmt} {f : Addr} {fd : FuncData} {ps ks : List Str} {n : Nat} {perm : List Nat}
theorem fnG_none {lv : Nat} (h : ps.length = n) : FnG P w K mg base CX0 lv f fd ps (spD K n fun _ => none) :=
  ⟨fun vs H Q E ⟨_, _, _, _, hl, _⟩ => hl.trans h.symm, fun A out s H args us vs Q E _ _ _ _ _ ⟨_, _, _, _, _, _, _, _, z, _⟩ => by cases z⟩
theorem fun_b (F : Fun K x ql st f fd) (h : ∀ (kV doc pm : Value) (an : Option Addr) (cdv ct : Value) (us : List Value), us.length = ps.length → bindArgs (PySem.W.fnOf x ql (defArgs st) (defBody st) (defScope st) .none kV doc pm an cdv ct) ⟨us, []⟩ = pure (ps.zip us)) : Binds K fd ps [] := L2.Fun.binds F h
theorem fun_kb (F : Fun K x ql st f fd) (h : ∀ (kV doc pm : Value) (an : Option Addr) (cdv ct : Value) (us ws : List Value), us.length = n → ws.length = ks.length → bindArgs (PySem.W.fnOf x ql (defArgs st) (defBody st) (defScope st) .none kV doc pm an cdv ct) ⟨us, ks.zip ws⟩ = pure (ps.zip (permute perm (us ++ ws ++ [])))) : KB K fd ps ks n perm [] := by
  obtain ⟨oc, od, kV, doc, pm, an, cdv, ct, osl, rfl, _, _⟩ := F.ex
  exact fun s us ws _ h1 h2 => .of_eq (h kV doc pm an cdv ct us ws h1 h2)
theorem funD_mk {dvs : List V} {oc : Value} {od an : Option Addr} {osl : Array (Option Value)} {kV doc pm cdv ct : Value} {T : Addr} {cT : Value} {dT : Option Addr} {its : List Value} {nT : Nat} {sT : Array (Option Value)}
    (l : K.lookup f = some ⟨oc, od, .func (PySem.W.fnOf x ql (defArgs st) (defBody st) (defScope st) (.ref T) kV doc pm an cdv ct), osl⟩) (c : PySem.W.codeIn K cdv ql = true) (k : PySem.W.keepIn K (.ref f) = true) (t : K.lookup T = some ⟨cT, dT, .seq its.toArray nT, sT⟩) (ne : dvs ≠ []) (v : Vals dvs its) :
    FunD K x ql (defArgs st) (defBody st) (defScope st) dvs [] f (PySem.W.fnOf x ql (defArgs st) (defBody st) (defScope st) (.ref T) kV doc pm an cdv ct) :=
  ⟨⟨oc, od, .ref T, kV, doc, pm, an, cdv, ct, osl, rfl, l, c, .inr ⟨ne, T, _, its, nT, rfl, t, rfl, v⟩, .inl rfl⟩, k⟩
theorem funD_b {T : Addr} {its ds : List Value} {cT : Value} {dT : Option Addr} {nT : Nat} {sT : Array (Option Value)} {fd : FuncData} (t : K.lookup T = some ⟨cT, dT, .seq its.toArray nT, sT⟩) (n : Nat) (hn : n + ds.length = ps.length) (hd : fd.defaults = .ref T)
    (h : ∀ us : List Value, us.length = n → ∃ k, bindArgs fd ⟨us, []⟩ = seqItems? fd.defaults >>= k ∧ k (some its.toArray) = pure (ps.zip (us ++ ds))) : Binds K fd ps ds := fun s us inK hl => by
  obtain ⟨k, h1, h2⟩ := h us (by rw [List.length_append] at hl; omega)
  exact PySem.W.binds_K inK hd t rfl h1 h2
theorem funD_kb {T : Addr} {its : List Value} {cT : Value} {dT : Option Addr} {nT : Nat} {sT : Array (Option Value)} {fd : FuncData} (t : K.lookup T = some ⟨cT, dT, .seq its.toArray nT, sT⟩) (hd : fd.defaults = .ref T)
    (h : ∀ us ws : List Value, us.length = n → ws.length = ks.length → ∃ k, bindArgs fd ⟨us, ks.zip ws⟩ = seqItems? fd.defaults >>= k ∧ k (some its.toArray) = pure (ps.zip (permute perm (us ++ ws ++ [])))) : KB K fd ps ks n perm [] := fun s us ws inK l1 l2 => by
  obtain ⟨k, h1, h2⟩ := h us ws l1 l2
  exact PySem.W.binds_K inK hd t rfl h1 h2
end
/-- the law's promise from its plain function -/
theorem law_want {K : PySem.W.Frag} {H : Hp} {a : Addr} {ns : List Int} {g : Fn} {n : Nat} {E : XK} (only : Only H) (sq : SqL K H a (ns.map V.int)) (short : ns.length ≤ n) (tr : ∀ ns : List Int, ns.length ≤ n → g [.d (.list (ns.map .int))] = some (.d (.bool true), [])) :
    spD K 1 g [.ref a] H (fun v _ => v = .bl true) E := by
  have fl : FL K (fun _ => False) H a (ns.map V.int) := by
    rcases sq with (z | ⟨o, z⟩) | z
    · rcases only a with c | ⟨o, xs, c⟩
      · rw [c] at z; cases z
      · rw [c] at z; cases z
    · exact .inr (.inl ⟨o, z⟩)
    · exact .inr (.inr (.inr z))
  have all : ∀ ns : List Int, RpAll K (fun _ => False) H (ns.map V.int) (ns.map PyData.int) := by
    intro ns
    induction ns with
    | nil => exact .nil
    | cons i r ih => exact .cons (.int i) ih
  refine ⟨fun _ => False, [.d (.list (ns.map .int))], .d (.bool true), [], rfl, .cons (.lst fl (all ns)) .nil, fun a h => h.elim, fun i j p h _ => ?_, tr ns short, fun v F' H' _ _ _ _ _ _ _ _ rt => ?_⟩
  · exact absurd h (by rw [show ([Ar.d (.list (ns.map .int))] : List Ar) = [PyData.list (ns.map .int)].map Ar.d from rfl, lentP_d]; exact fun z => by cases z)
  · have rt : Rp K F' H' v (.bool true) := rt
    cases rt
    rfl
end DL
end

section
set_option linter.all false
/-! DLsim: evaluation of the plain combinators by simp, from the head on: what comes after stands behind a name; loops. -/
namespace DL
open PySem
/-! ### what comes after -/
def kRet {α β : Type} (s : β) (z : α) : Option (α × β) := some (z, s)
def kPush {α β : Type} (x : α) (p : List α × β) : Option (List α × β) := some (x :: p.1, p.2)
def kOne {α : Type} (x : α) (xs : List α) : Option (List α) := some (x :: xs)
def kVar (o : Option SV) (i : Nat) (st : DSt) : Option (Rv × DSt) := match o with
  | some (.d x) => some (.d x, st)
  | some (.own _) => some (.sl i, st)
  | some (.lent _) => some (.sl i, st)
  | none => none
def kGive (o : Option SV) (i : Nat) (st : DSt) : Option (D × DSt) := match o with
  | some (.d x) => some (x, st)
  | some (.own xs) => some (.list xs, st.set i (some (.d (.list xs))))
  | _ => none
def kLooks (st : DSt) (rs : List Rv) (x : D) : Option (List D) := (looks st rs).bind (kOne x)
def kToDs (rs : List Rv) (p : D × DSt) : Option (List D × DSt) := (toDs p.2 rs).bind (kPush p.1)
def kCons (g : DA) (p : Rv × DSt) : Option (List Rv × DSt) := (g p.2).bind (kPush p.1)
def kOp2d (op : D → D → Option Rv) (x : D) (s : DSt) (y : D) : Option (Rv × DSt) := (op x y).bind (kRet s)
def kOp2c (op : D → D → Option Rv) (o : Option D) (s : DSt) (x : D) : Option (Rv × DSt) := o.bind (kOp2d op x s)
def kOp2b (op : D → D → Option Rv) (r : Rv) (q : Rv × DSt) : Option (Rv × DSt) := (look q.2 r).bind (kOp2c op (look q.2 q.1) q.2)
def kOp2 (op : D → D → Option Rv) (g : DE) (p : Rv × DSt) : Option (Rv × DSt) := (g p.2).bind (kOp2b op p.1)
def kOp1b (op : D → Option Rv) (s : DSt) (x : D) : Option (Rv × DSt) := (op x).bind (kRet s)
def kOp1 (op : D → Option Rv) (p : Rv × DSt) : Option (Rv × DSt) := (look p.2 p.1).bind (kOp1b op p.2)
def kCallBb (op : List D → Option Rv) (s : DSt) (xs : List D) : Option (Rv × DSt) := (op xs).bind (kRet s)
def kCallB (op : List D → Option Rv) (p : List Rv × DSt) : Option (Rv × DSt) := (looks p.2 p.1).bind (kCallBb op p.2)
def kSld (op : D → Option Int → Option Int → Option Rv) (l h : Option Int) (s : DSt) (x : D) : Option (Rv × DSt) := (op x l h).bind (kRet s)
def kSlc (op : D → Option Int → Option Int → Option Rv) (r : Rv) (l : Option Int) (h : Option Int × DSt) : Option (Rv × DSt) := (look h.2 r).bind (kSld op l h.1 h.2)
def kSlb (op : D → Option Int → Option Int → Option Rv) (r : Rv) (hi : DO) (l : Option Int × DSt) : Option (Rv × DSt) := (hi l.2).bind (kSlc op r l.1)
def kSl (op : D → Option Int → Option Int → Option Rv) (lo hi : DO) (p : Rv × DSt) : Option (Rv × DSt) := (lo p.2).bind (kSlb op p.1 hi)
def kPartb (o : Option D) (s : DSt) : Option (Option Int × DSt) := match o with
  | some (.int i) => some (some i, s)
  | _ => none
def kPart (p : Rv × DSt) : Option (Option Int × DSt) := kPartb (look p.2 p.1) p.2
def kListb (q : List D × DSt) : Option (Rv × DSt) := if q.1.length ≤ sizeLine then some (.tmp q.1, q.2) else none
def kList (p : List Rv × DSt) : Option (Rv × DSt) := (toDs p.2 p.1).bind kListb
def kTupb (q : List D × DSt) : Option (Rv × DSt) := if q.1.length ≤ sizeLine then some (.d (.tuple q.1), q.2) else none
def kTup (p : List Rv × DSt) : Option (Rv × DSt) := (toDs p.2 p.1).bind kTupb
def kTestb (o : Option D) (s : DSt) : Option (Bool × DSt) := match o with
  | some (.bool b) => some (b, s)
  | _ => none
def kTest (p : Rv × DSt) : Option (Bool × DSt) := kTestb (look p.2 p.1) p.2
def kNot (p : Bool × DSt) : Option (Bool × DSt) := some (!p.1, p.2)
def kAnd (g : DT) (p : Bool × DSt) : Option (Bool × DSt) := if p.1 = true then g p.2 else some (false, p.2)
def kOr (g : DT) (p : Bool × DSt) : Option (Bool × DSt) := if p.1 = true then some (true, p.2) else g p.2
def kAndVb (g : DE) (o : Option D) (s : DSt) : Option (Rv × DSt) := match o with
  | some (.bool b) => if b = true then g s else some (.d (.bool false), s)
  | _ => none
def kAndV (g : DE) (p : Rv × DSt) : Option (Rv × DSt) := kAndVb g (look p.2 p.1) p.2
def kOrVb (g : DE) (o : Option D) (s : DSt) : Option (Rv × DSt) := match o with
  | some (.bool b) => if b = true then some (.d (.bool true), s) else g s
  | _ => none
def kOrV (g : DE) (p : Rv × DSt) : Option (Rv × DSt) := kOrVb g (look p.2 p.1) p.2
def kNotVb (o : Option D) (s : DSt) : Option (Rv × DSt) := match o with
  | some (.bool b) => some (.d (.bool (!b)), s)
  | _ => none
def kNotV (p : Rv × DSt) : Option (Rv × DSt) := kNotVb (look p.2 p.1) p.2
def kIf {α : Type} (f g : DSt → Option α) (p : Bool × DSt) : Option α := if p.1 = true then f p.2 else g p.2
def kM (rs : List (Rv × Bool)) (p : D × DSt) : Option (List (Sum D Nat) × DSt) := (marsh p.2 rs).bind (kPush (.inl p.1))
def kLentAt (o : Option SV) : Option Ar := match o with
  | some (.own xs) => some (.m xs)
  | some (.lent xs) => some (.m xs)
  | _ => none
def kLents (st : DSt) (r : List (Sum D Nat)) (x : Ar) : Option (List Ar) := (lents st r).bind (kOne x)
def kPutBack (o : Option SV) (st : DSt) (i : Nat) (is : List Nat) (xs : List D) (r : List (List D)) : Option DSt := match o with
  | some (.own _) => putBack (st.set i (some (.own xs))) is r
  | some (.lent _) => putBack (st.set i (some (.lent xs))) is r
  | _ => none
def kCalld (r : Rt) (st : DSt) : Option (Rv × DSt) := some (rvOf r, st)
def kCallc (st : DSt) (is : List Nat) (r : Rt × List (List D)) : Option (Rv × DSt) := (putBack st is r.2).bind (kCalld r.1)
def kCallb (g : Fn) (more : List Ar) (st : DSt) (is : List Nat) (as : List Ar) : Option (Rv × DSt) := (g (as ++ more)).bind (kCallc st is)
def kCalla (g : Fn) (more : List Ar) (n k : Nat) (q : List (Sum D Nat) × DSt) : Option (Rv × DSt) := if (lentIx q.1).length ≤ 1 ∧ n = k then (lents q.2 q.1).bind (kCallb g more q.2 (lentIx q.1)) else none
def kCall (g : Fn) (modes : List Bool) (more : List D) (p : List Rv × DSt) : Option (Rv × DSt) := (marsh p.2 (p.1.zip modes)).bind (kCalla g (more.map Ar.d) p.1.length modes.length)
def kCallKd (s : DSt) (r : Rt × List (List D)) : Option (Rv × DSt) := some (rvOf r.1, s)
def kCallKc (g : Fn) (perm : List Nat) (more : List D) (c : Prop) [Decidable c] (q : List D × DSt) : Option (Rv × DSt) := if c then (g ((permute perm (q.1 ++ more)).map Ar.d)).bind (kCallKd q.2) else none
def kCallKb (g : Fn) (n m : Nat) (perm : List Nat) (more : List D) (rs : List Rv) (p2 : List Rv × DSt) : Option (Rv × DSt) := (toDs p2.2 (rs ++ p2.1)).bind (kCallKc g perm more (rs.length = n ∧ p2.1.length = m))
def kCallK (g : Fn) (n m : Nat) (perm : List Nat) (more : List D) (f2 : DA) (p : List Rv × DSt) : Option (Rv × DSt) := (f2 p.2).bind (kCallKb g n m perm more p.1)
def kIterb (op : D → Option (List D)) (q : D × DSt) : Option (List D × DSt) := (op q.1).bind (kRet q.2)
def kIter (op : D → Option (List D)) (p : Rv × DSt) : Option (List D × DSt) := (toD p.2 p.1).bind (kIterb op)
def kIterAb (op : List D → Option (List D)) (q : List D × DSt) : Option (List D × DSt) := (op q.1).bind (kRet q.2)
def kIterA (op : List D → Option (List D)) (p : List Rv × DSt) : Option (List D × DSt) := (toDs p.2 p.1).bind (kIterAb op)
def kSetS (o : Option SV) (st : DSt) (i : Nat) (v : SV) : Option DSt := match o with
  | some (.lent _) => none
  | _ => if i < st.length then some (st.set i (some v)) else none
def kFree (o : Option SV) : Bool := match o with | none => true | some (.d _) => true | _ => false
def kLcEnd (s0 : DSt) (vs : List Nat) (q : List D × DSt) : Option (Rv × DSt) := some (.tmp q.1, refill s0 q.2 vs)
def kLc (g : DG) (t : DT) (e : DE) (vs : List Nat) (p : List D × DSt) : Option (Rv × DSt) :=
  if p.1.length ≤ sizeLine ∧ vs.all (fun i => kFree (p.2.getD i none)) = true then (lcGo g t e vs p.1 (wipeD p.2 vs)).bind (kLcEnd p.2 vs) else none
def kLcTurnE (g : DG) (t : DT) (e : DE) (vs : List Nat) (xs : List D) (r : D × DSt) : Option (List D × DSt) := (lcGo g t e vs xs (wipeD r.2 vs)).bind (kPush r.1)
def kLcTurnD (g : DG) (t : DT) (e : DE) (vs : List Nat) (xs : List D) (q : Rv × DSt) : Option (List D × DSt) := (toD q.2 q.1).bind (kLcTurnE g t e vs xs)
def kLcTurnT (g : DG) (t : DT) (e : DE) (vs : List Nat) (xs : List D) (p : Bool × DSt) : Option (List D × DSt) :=
  if p.1 = true then (e p.2).bind (kLcTurnD g t e vs xs) else lcGo g t e vs xs (wipeD p.2 vs)
def kLcTurn (g : DG) (t : DT) (e : DE) (vs : List Nat) (xs : List D) (s1 : DSt) : Option (List D × DSt) := (t s1).bind (kLcTurnT g t e vs xs)
def kSeq (g : DS) (p : Fl × DSt) : Option (Fl × DSt) := match p.1 with
  | .nx => g p.2
  | _ => some p
def kNx (s : DSt) : Option (Fl × DSt) := some (.nx, s)
def kSetD (i : Nat) (q : D × DSt) : Option (Fl × DSt) := (setS q.2 i (.d q.1)).bind kNx
def kSet (i : Nat) (p : Rv × DSt) : Option (Fl × DSt) := match p.1 with
  | .tmp xs => (setS p.2 i (.own xs)).bind kNx
  | r => (toD p.2 r).bind (kSetD i)
def kAsgb (g : DG) (q : D × DSt) : Option (Fl × DSt) := (g q.1 q.2).bind kNx
def kAsg (g : DG) (p : Rv × DSt) : Option (Fl × DSt) := (toD p.2 p.1).bind (kAsgb g)
def kParb (is : List Nat) (q : List D × DSt) : Option (Fl × DSt) := (dPar.parGo is q.1 q.2).bind kNx
def kPar (is : List Nat) (p : List Rv × DSt) : Option (Fl × DSt) := (toDs p.2 p.1).bind (kParb is)
def kParGo (is : List Nat) (xs : List D) (s : DSt) : Option DSt := dPar.parGo is xs s
def kAugOut (o : Option Rv) (s : DSt) (i : Nat) : Option (Fl × DSt) := match o with
  | some (.d z) => (setS s i (.d z)).bind kNx
  | _ => none
def kAugc (op : D → D → Option Rv) (i : Nat) (x : D) (s : DSt) (y : D) : Option (Fl × DSt) := kAugOut (op x y) s i
def kAugb (op : D → D → Option Rv) (i : Nat) (v : Rv) (p : Rv × DSt) : Option (Fl × DSt) := match v with
  | .d x => (look p.2 p.1).bind (kAugc op i x p.2)
  | _ => none
def kAug (op : D → D → Option Rv) (i : Nat) (f : DE) (v : Rv × DSt) : Option (Fl × DSt) := (f v.2).bind (kAugb op i v.1)
def kPutL (o : Option SV) (st : DSt) (i : Nat) (xs : List D) : Option DSt := match o with
  | some (.own _) => some (st.set i (some (.own xs)))
  | some (.lent _) => some (st.set i (some (.lent xs)))
  | _ => none
def kGetL (o : Option SV) : Option (List D) := match o with
  | some (.own xs) => some xs
  | some (.lent xs) => some xs
  | _ => none
def kAppc (i : Nat) (x : D) (s : DSt) (xs : List D) : Option (Fl × DSt) := if xs.length < sizeLine then (putL s i (xs ++ [x])).bind kNx else none
def kAppb (i : Nat) (q : D × DSt) : Option (Fl × DSt) := (getL q.2 i).bind (kAppc i q.1 q.2)
def kAppa (i : Nat) (p : Rv × DSt) : Option (Fl × DSt) := (toD p.2 p.1).bind (kAppb i)
def kApp (i : Nat) (f : DE) (st : DSt) (_ : List D) : Option (Fl × DSt) := (f st).bind (kAppa i)
def kSxe (i : Nat) (x : D) (s : DSt) (xs : List D) (n : Nat) : Option (Fl × DSt) := (putL s i (xs.set n x)).bind kNx
def kSxd (i : Nat) (x : D) (s : DSt) (j : Int) (xs : List D) : Option (Fl × DSt) := (ixAt xs j).bind (kSxe i x s xs)
def kSxc (i : Nat) (x : D) (o : Option D) (s : DSt) : Option (Fl × DSt) := match o with
  | some (.int j) => (getL s i).bind (kSxd i x s j)
  | _ => none
def kSxb (i : Nat) (x : D) (r : Rv × DSt) : Option (Fl × DSt) := kSxc i x (look r.2 r.1) r.2
def kSxa2 (i : Nat) (k : DE) (q : D × DSt) (_ : List D) : Option (Fl × DSt) := (k q.2).bind (kSxb i q.1)
def kSxa (i : Nat) (k : DE) (q : D × DSt) : Option (Fl × DSt) := (getL q.2 i).bind (kSxa2 i k q)
def kSx (i : Nat) (k : DE) (p : Rv × DSt) : Option (Fl × DSt) := (toD p.2 p.1).bind (kSxa i k)
def kAxi (i : Nat) (z : D) (s : DSt) (ys : List D) (n : Nat) : Option (Fl × DSt) := (putL s i (ys.set n z)).bind kNx
def kAxh (i : Nat) (z : D) (s : DSt) (j : Int) (ys : List D) : Option (Fl × DSt) := (ixAt ys j).bind (kAxi i z s ys)
def kAxg (o : Option Rv) (i : Nat) (s : DSt) (j : Int) : Option (Fl × DSt) := match o with
  | some (.d z) => (getL s i).bind (kAxh i z s j)
  | _ => none
def kAxf (op : D → D → Option Rv) (i : Nat) (j : Int) (x : D) (s : DSt) (y : D) : Option (Fl × DSt) := kAxg (op x y) i s j
def kAxe (op : D → D → Option Rv) (i : Nat) (j : Int) (x : D) (p : Rv × DSt) : Option (Fl × DSt) := (look p.2 p.1).bind (kAxf op i j x p.2)
def kAxd (op : D → D → Option Rv) (i : Nat) (f : DE) (j : Int) (s : DSt) (x : D) : Option (Fl × DSt) := (f s).bind (kAxe op i j x)
def kAxc (op : D → D → Option Rv) (i : Nat) (f : DE) (j : Int) (s : DSt) (xs : List D) (n : Nat) : Option (Fl × DSt) := (xs[n]?).bind (kAxd op i f j s)
def kAxb (op : D → D → Option Rv) (i : Nat) (f : DE) (j : Int) (s : DSt) (xs : List D) : Option (Fl × DSt) := (ixAt xs j).bind (kAxc op i f j s xs)
def kAxa (op : D → D → Option Rv) (i : Nat) (f : DE) (o : Option D) (s : DSt) : Option (Fl × DSt) := match o with
  | some (.int j) => (getL s i).bind (kAxb op i f j s)
  | _ => none
def kAx2 (op : D → D → Option Rv) (i : Nat) (f : DE) (r : Rv × DSt) : Option (Fl × DSt) := kAxa op i f (look r.2 r.1) r.2
def kAx (op : D → D → Option Rv) (i : Nat) (k f : DE) (st : DSt) (_ : List D) : Option (Fl × DSt) := (k st).bind (kAx2 op i f)
def kDrop (p : Rv × DSt) : Option (Fl × DSt) := some (.nx, p.2)
def kRetSl (o : Option SV) (s : DSt) (i : Nat) : Option (Fl × DSt) := match o with
  | some (.d x) => some (.rt (.d x), s)
  | some (.own xs) => some (.rt (.own xs), s.set i none)
  | _ => none
def kRetv (p : Rv × DSt) : Option (Fl × DSt) := match p.1 with
  | .d x => some (.rt (.d x), p.2)
  | .tmp xs => some (.rt (.own xs), p.2)
  | .sl i => kRetSl (p.2.getD i none) p.2 i
def kForb (g : DG) (b : DS) (xs : List D) (p : Fl × DSt) : Option (Fl × DSt) := match p.1 with
  | .nx => forGo g b xs p.2
  | .ct => forGo g b xs p.2
  | .bk => some (.nx, p.2)
  | .rt r => some (.rt r, p.2)
def kFora (g : DG) (b : DS) (xs : List D) (s : DSt) : Option (Fl × DSt) := (b s).bind (kForb g b xs)
def kFor (g : DG) (b : DS) (p : List D × DSt) : Option (Fl × DSt) := forGo g b p.1 p.2
def kOuts (xs : List D) (o : List (List D)) : Option (List (List D)) := some (xs :: o)
def kOutsM (o : Option SV) (st : DSt) (r : List Ar) (i : Nat) : Option (List (List D)) := match o with
  | some (.lent xs) => (outsGo st r (i + 1)).bind (kOuts xs)
  | _ => none
def kRunb (f : Fl) (o : List (List D)) : Option (Rt × List (List D)) := match f with
  | .nx => some (.d .none, o)
  | .rt r => some (r, o)
  | _ => none
def kRun (as : List Ar) (p : Fl × DSt) : Option (Rt × List (List D)) := (outsGo p.2 as 0).bind (kRunb p.1)
def kGs (h : DGs) (r : List D) (s : DSt) : Option DSt := h r s
/-- one after the other; simp never looks ahead -/
def obind {α β : Type} (x : Option α) (f : α → Option β) : Option β := x.bind f
@[simp] theorem obind_some {α β : Type} (a : α) (f : α → Option β) : obind (some a) f = f a := (rfl)
@[simp] theorem obind_none {α β : Type} (f : α → Option β) : obind none f = none := (rfl)
section
variable (st s : DSt)
@[simp] theorem kRet_ap {α β : Type} (s : β) (z : α) : kRet s z = some (z, s) := (rfl)
@[simp] theorem kPush_ap {α β : Type} (x : α) (xs : List α) (s : β) : kPush x (xs, s) = some (x :: xs, s) := (rfl)
@[simp] theorem kOne_ap {α : Type} (x : α) (xs : List α) : kOne x xs = some (x :: xs) := (rfl)
@[simp] theorem lookS_d (x) : lookS (some (.d x)) = some x := (rfl)
@[simp] theorem lookS_own (x) : lookS (some (.own x)) = some (.list x) := (rfl)
@[simp] theorem lookS_lent (x) : lookS (some (.lent x)) = some (.list x) := (rfl)
@[simp] theorem look_d (x) : look st (.d x) = some x := (rfl)
@[simp] theorem look_tmp (x) : look st (.tmp x) = some (.list x) := (rfl)
@[simp] theorem look_sl (i) : look st (.sl i) = lookS (st.getD i none) := (rfl)
@[simp] theorem looks_nil : looks st [] = some [] := (rfl)
@[simp] theorem looks_cons (r rs) : looks st (r :: rs) = obind (look st r) (kLooks st rs) := (rfl)
@[simp] theorem kLooks_ap (rs x) : kLooks st rs x = obind (looks st rs) (kOne x) := (rfl)
@[simp] theorem kGive_d (x i) : kGive (some (.d x)) i st = some (x, st) := (rfl)
@[simp] theorem kGive_own (xs i) : kGive (some (.own xs)) i st = some (.list xs, st.set i (some (.d (.list xs)))) := (rfl)
@[simp] theorem toD_d (x) : toD st (.d x) = some (x, st) := (rfl)
@[simp] theorem toD_tmp (x) : toD st (.tmp x) = some (.list x, st) := (rfl)
@[simp] theorem toD_sl (i) : toD st (.sl i) = kGive (st.getD i none) i st := (rfl)
@[simp] theorem toDs_nil : toDs st [] = some ([], st) := (rfl)
@[simp] theorem toDs_cons (r rs) : toDs st (r :: rs) = obind (toD st r) (kToDs rs) := (rfl)
@[simp] theorem kToDs_ap (rs x) : kToDs rs (x, s) = obind (toDs s rs) (kPush x) := (rfl)
@[simp] theorem dVar_ap (i) : dVar i st = kVar (st.getD i none) i st := (rfl)
@[simp] theorem kVar_d (x i) : kVar (some (.d x)) i st = some (.d x, st) := (rfl)
@[simp] theorem kVar_own (x i) : kVar (some (.own x)) i st = some (.sl i, st) := (rfl)
@[simp] theorem kVar_lent (x i) : kVar (some (.lent x)) i st = some (.sl i, st) := (rfl)
@[simp] theorem dC_ap (x) : dC x st = some (.d x, st) := (rfl)
@[simp] theorem dNil_ap : dNil st = some ([], st) := (rfl)
@[simp] theorem dCons_ap (f g) : dCons f g st = obind (f st) (kCons g) := (rfl)
@[simp] theorem kCons_ap (g r) : kCons g (r, s) = obind (g s) (kPush r) := (rfl)
@[simp] theorem dOp2_ap (op f g) : dOp2 op f g st = obind (f st) (kOp2 op g) := (rfl)
@[simp] theorem kOp2_ap (op g r) : kOp2 op g (r, s) = obind (g s) (kOp2b op r) := (rfl)
@[simp] theorem kOp2b_ap (op r r2) : kOp2b op r (r2, s) = obind (look s r) (kOp2c op (look s r2) s) := (rfl)
@[simp] theorem kOp2c_ap (op o x) : kOp2c op o s x = obind o (kOp2d op x s) := (rfl)
@[simp] theorem kOp2d_ap (op x y) : kOp2d op x s y = obind (op x y) (kRet s) := (rfl)
@[simp] theorem dOp1_ap (op f) : dOp1 op f st = obind (f st) (kOp1 op) := (rfl)
@[simp] theorem kOp1_ap (op r) : kOp1 op (r, s) = obind (look s r) (kOp1b op s) := (rfl)
@[simp] theorem kOp1b_ap (op x) : kOp1b op s x = obind (op x) (kRet s) := (rfl)
@[simp] theorem dCallB_ap (op f) : dCallB op f st = obind (f st) (kCallB op) := (rfl)
@[simp] theorem kCallB_ap (op rs) : kCallB op (rs, s) = obind (looks s rs) (kCallBb op s) := (rfl)
@[simp] theorem kCallBb_ap (op xs) : kCallBb op s xs = obind (op xs) (kRet s) := (rfl)
@[simp] theorem dSlice_ap (op f lo hi) : dSlice op f lo hi st = obind (f st) (kSl op lo hi) := (rfl)
@[simp] theorem kSl_ap (op lo hi r) : kSl op lo hi (r, s) = obind (lo s) (kSlb op r hi) := (rfl)
@[simp] theorem kSlb_ap (op r hi l) : kSlb op r hi (l, s) = obind (hi s) (kSlc op r l) := (rfl)
@[simp] theorem kSlc_ap (op r l h) : kSlc op r l (h, s) = obind (look s r) (kSld op l h s) := (rfl)
@[simp] theorem kSld_ap (op l h x) : kSld op l h s x = obind (op x l h) (kRet s) := (rfl)
@[simp] theorem dNoPart_ap : dNoPart st = some (none, st) := (rfl)
@[simp] theorem dPart_ap (f) : dPart f st = obind (f st) kPart := (rfl)
@[simp] theorem kPart_ap (r) : kPart (r, s) = kPartb (look s r) s := (rfl)
@[simp] theorem kPartb_i (i) : kPartb (some (.int i)) s = some (some i, s) := (rfl)
@[simp] theorem dList_ap (f) : dList f st = obind (f st) kList := (rfl)
@[simp] theorem kList_ap (rs) : kList (rs, s) = obind (toDs s rs) kListb := (rfl)
@[simp] theorem kListb_ap (xs) : kListb (xs, s) = if xs.length ≤ sizeLine then some (.tmp xs, s) else none := (rfl)
@[simp] theorem dTup_ap (f) : dTup f st = obind (f st) kTup := (rfl)
@[simp] theorem kTup_ap (rs) : kTup (rs, s) = obind (toDs s rs) kTupb := (rfl)
@[simp] theorem kTupb_ap (xs) : kTupb (xs, s) = if xs.length ≤ sizeLine then some (.d (.tuple xs), s) else none := (rfl)
@[simp] theorem dTest_ap (f) : dTest f st = obind (f st) kTest := (rfl)
@[simp] theorem kTest_ap (r) : kTest (r, s) = kTestb (look s r) s := (rfl)
@[simp] theorem kTestb_b (b) : kTestb (some (.bool b)) s = some (b, s) := (rfl)
@[simp] theorem dNot_ap (f) : dNot f st = obind (f st) kNot := (rfl)
@[simp] theorem kNot_ap (b) : kNot (b, s) = some (!b, s) := (rfl)
@[simp] theorem dAnd_ap (f g) : dAnd f g st = obind (f st) (kAnd g) := (rfl)
@[simp] theorem kAnd_ap (g b) : kAnd g (b, s) = if b = true then g s else some (false, s) := (rfl)
@[simp] theorem dOr_ap (f g) : dOr f g st = obind (f st) (kOr g) := (rfl)
@[simp] theorem kOr_ap (g b) : kOr g (b, s) = if b = true then some (true, s) else g s := (rfl)
@[simp] theorem dAndV_ap (f g) : dAndV f g st = obind (f st) (kAndV g) := (rfl)
@[simp] theorem kAndV_ap (g r) : kAndV g (r, s) = kAndVb g (look s r) s := (rfl)
@[simp] theorem kAndVb_b (g b) : kAndVb g (some (.bool b)) s = if b = true then g s else some (.d (.bool false), s) := (rfl)
@[simp] theorem dOrV_ap (f g) : dOrV f g st = obind (f st) (kOrV g) := (rfl)
@[simp] theorem kOrV_ap (g r) : kOrV g (r, s) = kOrVb g (look s r) s := (rfl)
@[simp] theorem kOrVb_b (g b) : kOrVb g (some (.bool b)) s = if b = true then some (.d (.bool true), s) else g s := (rfl)
@[simp] theorem dNotV_ap (f) : dNotV f st = obind (f st) kNotV := (rfl)
@[simp] theorem kNotV_ap (r) : kNotV (r, s) = kNotVb (look s r) s := (rfl)
@[simp] theorem kNotVb_b (b) : kNotVb (some (.bool b)) s = some (.d (.bool (!b)), s) := (rfl)
@[simp] theorem dIf_ap (t f g) : dIf t f g st = obind (t st) (kIf f g) := (rfl)
@[simp] theorem kIf_ap {α : Type} (f g : DSt → Option α) (b) : kIf f g (b, s) = if b = true then f s else g s := (rfl)
@[simp] theorem marsh_nil : marsh st [] = some ([], st) := (rfl)
@[simp] theorem marsh_false (r rs) : marsh st ((r, false) :: rs) = obind (toD st r) (kM rs) := by
  rw [marsh]
  rfl
@[simp] theorem kM_ap (rs x) : kM rs (x, s) = obind (marsh s rs) (kPush (.inl x)) := (rfl)
@[simp] theorem marsh_true (i rs) : marsh st ((.sl i, true) :: rs) = obind (marsh st rs) (kPush (.inr i)) := by
  rw [marsh]
  rfl
@[simp] theorem lentAt_l (x) : lentAt st (.inl x) = some (.d x) := (rfl)
@[simp] theorem lentAt_r (i) : lentAt st (.inr i) = kLentAt (st.getD i none) := (rfl)
@[simp] theorem kLentAt_own (xs) : kLentAt (some (.own xs)) = some (.m xs) := (rfl)
@[simp] theorem kLentAt_lent (xs) : kLentAt (some (.lent xs)) = some (.m xs) := (rfl)
@[simp] theorem lents_nil : lents st [] = some [] := (rfl)
@[simp] theorem lents_cons (a r) : lents st (a :: r) = obind (lentAt st a) (kLents st r) := (rfl)
@[simp] theorem kLents_ap (r x) : kLents st r x = obind (lents st r) (kOne x) := (rfl)
@[simp] theorem lentIx_nil : lentIx [] = [] := (rfl)
@[simp] theorem lentIx_l (x r) : lentIx (.inl x :: r) = lentIx r := (rfl)
@[simp] theorem lentIx_r (x r) : lentIx (.inr x :: r) = x :: lentIx r := (rfl)
@[simp] theorem putBack_nil : putBack st [] [] = some st := (rfl)
@[simp] theorem putBack_cons (i is xs r) : putBack st (i :: is) (xs :: r) = kPutBack (st.getD i none) st i is xs r := by
  rw [putBack]
  rfl
@[simp] theorem kPutBack_own (ys i is xs r) : kPutBack (some (.own ys)) st i is xs r = putBack (st.set i (some (.own xs))) is r := (rfl)
@[simp] theorem kPutBack_lent (ys i is xs r) : kPutBack (some (.lent ys)) st i is xs r = putBack (st.set i (some (.lent xs))) is r := (rfl)
@[simp] theorem rvOf_d (x) : rvOf (.d x) = .d x := (rfl)
@[simp] theorem rvOf_own (x) : rvOf (.own x) = .tmp x := (rfl)
@[simp] theorem dCall_ap (g modes more f) : dCall g modes more f st = obind (f st) (kCall g modes more) := (rfl)
@[simp] theorem kCall_ap (g modes more rs) : kCall g modes more (rs, s) = obind (marsh s (rs.zip modes)) (kCalla g (more.map Ar.d) rs.length modes.length) := (rfl)
@[simp] theorem kCalla_ap (g more n k as) : kCalla g more n k (as, s) = if (lentIx as).length ≤ 1 ∧ n = k then obind (lents s as) (kCallb g more s (lentIx as)) else none := (rfl)
@[simp] theorem kCallb_ap (g more is as) : kCallb g more s is as = obind (g (as ++ more)) (kCallc s is) := (rfl)
@[simp] theorem kCallc_ap (is r o) : kCallc s is (r, o) = obind (putBack s is o) (kCalld r) := (rfl)
@[simp] theorem kCalld_ap (r) : kCalld r s = some (rvOf r, s) := (rfl)
@[simp] theorem dCallK_ap (g n m perm more f f2) : dCallK g n m perm more f f2 st = obind (f st) (kCallK g n m perm more f2) := (rfl)
@[simp] theorem kCallK_ap (g n m perm more f2 rs) : kCallK g n m perm more f2 (rs, s) = obind (f2 s) (kCallKb g n m perm more rs) := (rfl)
@[simp] theorem kCallKb_ap (g n m perm more rs rs2) : kCallKb g n m perm more rs (rs2, s) = obind (toDs s (rs ++ rs2)) (kCallKc g perm more (rs.length = n ∧ rs2.length = m)) := (rfl)
@[simp] theorem kCallKc_ap (g perm more) (c : Prop) [Decidable c] (xs) : kCallKc g perm more c (xs, s) = if c then obind (g ((permute perm (xs ++ more)).map Ar.d)) (kCallKd s) else none := (rfl)
@[simp] theorem kCallKd_ap (r o) : kCallKd s (r, o) = some (rvOf r, s) := (rfl)
@[simp] theorem permute_nilS {α : Type} (xs : List α) : permute [] xs = [] := (rfl)
@[simp] theorem permute_consS {α : Type} (i is) (xs : List α) (x : α) (h : xs[i]? = some x) : permute (i :: is) xs = x :: permute is xs := by
  simp [permute, List.filterMap_cons, h]
@[simp] theorem dIter_ap (op f) : dIter op f st = obind (f st) (kIter op) := (rfl)
@[simp] theorem kIter_ap (op r) : kIter op (r, s) = obind (toD s r) (kIterb op) := (rfl)
@[simp] theorem kIterb_ap (op x) : kIterb op (x, s) = obind (op x) (kRet s) := (rfl)
@[simp] theorem dIterA_ap (op f) : dIterA op f st = obind (f st) (kIterA op) := (rfl)
@[simp] theorem kIterA_ap (op rs) : kIterA op (rs, s) = obind (toDs s rs) (kIterAb op) := (rfl)
@[simp] theorem kIterAb_ap (op xs) : kIterAb op (xs, s) = obind (op xs) (kRet s) := (rfl)
@[simp] theorem gName_ap (i x) : gName i x st = setS st i (.d x) := (rfl)
@[simp] theorem setS_ap (i v) : setS st i v = kSetS (st.getD i none) st i v := (rfl)
@[simp] theorem kSetS_none (i v) : kSetS none st i v = if i < st.length then some (st.set i (some v)) else none := (rfl)
@[simp] theorem kSetS_d (x i v) : kSetS (some (.d x)) st i v = if i < st.length then some (st.set i (some v)) else none := (rfl)
@[simp] theorem kSetS_own (x i v) : kSetS (some (.own x)) st i v = if i < st.length then some (st.set i (some v)) else none := (rfl)
@[simp] theorem gNil_ap : gNil [] st = some st := (rfl)
@[simp] theorem gCons_ap (g h x r) : gCons g h (x :: r) st = obind (g x st) (kGs h r) := (rfl)
@[simp] theorem kGs_ap (h r) : kGs h r s = h r s := (rfl)
@[simp] theorem gTup_ap (n h xs) : gTup n h (.tuple xs) st = if xs.length = n then h xs st else none := (rfl)
@[simp] theorem wipeD_nil : wipeD st [] = st := (rfl)
@[simp] theorem wipeD_cons (v vs) : wipeD st (v :: vs) = (wipeD st vs).set v none := (rfl)
@[simp] theorem refill_nil (s0) : refill s0 st [] = st := (rfl)
@[simp] theorem refill_cons (s0 v vs) : refill s0 st (v :: vs) = (refill s0 st vs).set v (s0.getD v none) := (rfl)
theorem lcGo_nil (g t e vs) : lcGo g t e vs [] st = some ([], st) := (rfl)
theorem lcGo_cons (g t e vs x xs) : lcGo g t e vs (x :: xs) st = obind (g x st) (kLcTurn g t e vs xs) := (rfl)
@[simp] theorem kLcTurn_ap (g t e vs xs) : kLcTurn g t e vs xs s = obind (t s) (kLcTurnT g t e vs xs) := (rfl)
@[simp] theorem kLcTurnT_ap (g t e vs xs b) : kLcTurnT g t e vs xs (b, s) = if b = true then obind (e s) (kLcTurnD g t e vs xs) else lcGo g t e vs xs (wipeD s vs) := (rfl)
@[simp] theorem kLcTurnD_ap (g t e vs xs r) : kLcTurnD g t e vs xs (r, s) = obind (toD s r) (kLcTurnE g t e vs xs) := (rfl)
@[simp] theorem kLcTurnE_ap (g t e vs xs x) : kLcTurnE g t e vs xs (x, s) = obind (lcGo g t e vs xs (wipeD s vs)) (kPush x) := (rfl)
@[simp] theorem dLc_ap (it g t e vs) : dLc it g t e vs st = obind (it st) (kLc g t e vs) := (rfl)
@[simp] theorem kLc_ap (g t e vs xs) : kLc g t e vs (xs, s) = if xs.length ≤ sizeLine ∧ vs.all (fun i => kFree (s.getD i none)) = true then obind (lcGo g t e vs xs (wipeD s vs)) (kLcEnd s vs) else none := (rfl)
@[simp] theorem kLcEnd_ap (s0 vs xs) : kLcEnd s0 vs (xs, s) = some (.tmp xs, refill s0 s vs) := (rfl)
@[simp] theorem kFree_none : kFree none = true := (rfl)
@[simp] theorem kFree_d (x) : kFree (some (.d x)) = true := (rfl)
@[simp] theorem dTests_ap : dTests st = some (true, st) := (rfl)
@[simp] theorem dNext_ap : dNext st = some (.nx, st) := (rfl)
@[simp] theorem dSeq_ap (f g) : dSeq f g st = obind (f st) (kSeq g) := (rfl)
@[simp] theorem kSeq_nx (g) : kSeq g (.nx, s) = g s := (rfl)
@[simp] theorem kSeq_bk (g) : kSeq g (.bk, s) = some (.bk, s) := (rfl)
@[simp] theorem kSeq_ct (g) : kSeq g (.ct, s) = some (.ct, s) := (rfl)
@[simp] theorem kSeq_rt (g r) : kSeq g (.rt r, s) = some (.rt r, s) := (rfl)
@[simp] theorem dBreak_ap : dBreak st = some (.bk, st) := (rfl)
@[simp] theorem dCont_ap : dCont st = some (.ct, st) := (rfl)
@[simp] theorem dNever_ap : dNever st = none := (rfl)
@[simp] theorem kNx_ap : kNx s = some (.nx, s) := (rfl)
@[simp] theorem dSet_ap (i f) : dSet i f st = obind (f st) (kSet i) := (rfl)
@[simp] theorem kSet_d (i x) : kSet i (.d x, s) = obind (setS s i (.d x)) kNx := (rfl)
@[simp] theorem kSet_tmp (i xs) : kSet i (.tmp xs, s) = obind (setS s i (.own xs)) kNx := (rfl)
@[simp] theorem kSet_sl (i j) : kSet i (.sl j, s) = obind (kGive (s.getD j none) j s) (kSetD i) := (rfl)
@[simp] theorem kSetD_ap (i x) : kSetD i (x, s) = obind (setS s i (.d x)) kNx := (rfl)
@[simp] theorem dAsg_ap (g f) : dAsg g f st = obind (f st) (kAsg g) := (rfl)
@[simp] theorem kAsg_ap (g r) : kAsg g (r, s) = obind (toD s r) (kAsgb g) := (rfl)
@[simp] theorem kAsgb_ap (g x) : kAsgb g (x, s) = obind (g x s) kNx := (rfl)
@[simp] theorem dPar_ap (is f) : dPar is f st = obind (f st) (kPar is) := (rfl)
@[simp] theorem kPar_ap (is rs) : kPar is (rs, s) = obind (toDs s rs) (kParb is) := (rfl)
@[simp] theorem kParb_ap (is xs) : kParb is (xs, s) = obind (dPar.parGo is xs s) kNx := (rfl)
@[simp] theorem parGo_nil : dPar.parGo [] [] st = some st := (rfl)
@[simp] theorem parGo_cons (i is x xs) : dPar.parGo (i :: is) (x :: xs) st = obind (setS st i (.d x)) (kParGo is xs) := (rfl)
@[simp] theorem kParGo_ap (is xs) : kParGo is xs s = dPar.parGo is xs s := (rfl)
@[simp] theorem dAug_ap (op i f) : dAug op i f st = obind (dVar i st) (kAug op i f) := (rfl)
@[simp] theorem kAug_ap (op i f v) : kAug op i f (v, s) = obind (f s) (kAugb op i v) := (rfl)
@[simp] theorem kAugb_ap (op i x r) : kAugb op i (.d x) (r, s) = obind (look s r) (kAugc op i x s) := (rfl)
@[simp] theorem kAugc_ap (op i x y) : kAugc op i x s y = kAugOut (op x y) s i := (rfl)
@[simp] theorem kAugOut_d (z i) : kAugOut (some (.d z)) s i = obind (setS s i (.d z)) kNx := (rfl)
@[simp] theorem putL_ap (i xs) : putL st i xs = kPutL (st.getD i none) st i xs := (rfl)
@[simp] theorem kPutL_own (ys i xs) : kPutL (some (.own ys)) st i xs = some (st.set i (some (.own xs))) := (rfl)
@[simp] theorem kPutL_lent (ys i xs) : kPutL (some (.lent ys)) st i xs = some (st.set i (some (.lent xs))) := (rfl)
@[simp] theorem getL_ap (i) : getL st i = kGetL (st.getD i none) := (rfl)
@[simp] theorem kGetL_own (xs) : kGetL (some (.own xs)) = some xs := (rfl)
@[simp] theorem kGetL_lent (xs) : kGetL (some (.lent xs)) = some xs := (rfl)
@[simp] theorem dAppend_ap (i f) : dAppend i f st = obind (getL st i) (kApp i f st) := (rfl)
@[simp] theorem kApp_ap (i f xs) : kApp i f st xs = obind (f st) (kAppa i) := (rfl)
@[simp] theorem kAppa_ap (i r) : kAppa i (r, s) = obind (toD s r) (kAppb i) := (rfl)
@[simp] theorem kAppb_ap (i x) : kAppb i (x, s) = obind (getL s i) (kAppc i x s) := (rfl)
@[simp] theorem kAppc_ap (i x xs) : kAppc i x s xs = if xs.length < sizeLine then obind (putL s i (xs ++ [x])) kNx else none := (rfl)
@[simp] theorem dSetIx_ap (i k f) : dSetIx i k f st = obind (f st) (kSx i k) := (rfl)
@[simp] theorem kSx_ap (i k r) : kSx i k (r, s) = obind (toD s r) (kSxa i k) := (rfl)
@[simp] theorem kSxa_ap (i k x) : kSxa i k (x, s) = obind (getL s i) (kSxa2 i k (x, s)) := (rfl)
@[simp] theorem kSxa2_ap (i k x xs) : kSxa2 i k (x, s) xs = obind (k s) (kSxb i x) := (rfl)
@[simp] theorem kSxb_ap (i x r) : kSxb i x (r, s) = kSxc i x (look s r) s := (rfl)
@[simp] theorem kSxc_i (i x j) : kSxc i x (some (.int j)) s = obind (getL s i) (kSxd i x s j) := (rfl)
@[simp] theorem kSxd_ap (i x j xs) : kSxd i x s j xs = obind (ixAt xs j) (kSxe i x s xs) := (rfl)
@[simp] theorem kSxe_ap (i x xs n) : kSxe i x s xs n = obind (putL s i (xs.set n x)) kNx := (rfl)
@[simp] theorem dAugIx_ap (op i k f) : dAugIx op i k f st = obind (getL st i) (kAx op i k f st) := (rfl)
@[simp] theorem kAx_ap (op i k f xs) : kAx op i k f st xs = obind (k st) (kAx2 op i f) := (rfl)
@[simp] theorem kAx2_ap (op i f r) : kAx2 op i f (r, s) = kAxa op i f (look s r) s := (rfl)
@[simp] theorem kAxa_i (op i f j) : kAxa op i f (some (.int j)) s = obind (getL s i) (kAxb op i f j s) := (rfl)
@[simp] theorem kAxb_ap (op i f j xs) : kAxb op i f j s xs = obind (ixAt xs j) (kAxc op i f j s xs) := (rfl)
@[simp] theorem kAxc_ap (op i f j xs n) : kAxc op i f j s xs n = obind (xs[n]?) (kAxd op i f j s) := (rfl)
@[simp] theorem kAxd_ap (op i f j x) : kAxd op i f j s x = obind (f s) (kAxe op i j x) := (rfl)
@[simp] theorem kAxe_ap (op i j x r) : kAxe op i j x (r, s) = obind (look s r) (kAxf op i j x s) := (rfl)
@[simp] theorem kAxf_ap (op i j x y) : kAxf op i j x s y = kAxg (op x y) i s j := (rfl)
@[simp] theorem kAxg_d (z i j) : kAxg (some (.d z)) i s j = obind (getL s i) (kAxh i z s j) := (rfl)
@[simp] theorem kAxh_ap (i z j ys) : kAxh i z s j ys = obind (ixAt ys j) (kAxi i z s ys) := (rfl)
@[simp] theorem kAxi_ap (i z ys n) : kAxi i z s ys n = obind (putL s i (ys.set n z)) kNx := (rfl)
@[simp] theorem dDrop_ap (f) : dDrop f st = obind (f st) kDrop := (rfl)
@[simp] theorem kDrop_ap (r) : kDrop (r, s) = some (.nx, s) := (rfl)
@[simp] theorem dRet_ap (f) : dRet f st = obind (f st) kRetv := (rfl)
@[simp] theorem kRetv_d (x) : kRetv (.d x, s) = some (.rt (.d x), s) := (rfl)
@[simp] theorem kRetv_tmp (x) : kRetv (.tmp x, s) = some (.rt (.own x), s) := (rfl)
@[simp] theorem kRetv_sl (i) : kRetv (.sl i, s) = kRetSl (s.getD i none) s i := (rfl)
@[simp] theorem kRetSl_d (x i) : kRetSl (some (.d x)) s i = some (.rt (.d x), s) := (rfl)
@[simp] theorem kRetSl_own (x i) : kRetSl (some (.own x)) s i = some (.rt (.own x), s.set i none) := (rfl)
@[simp] theorem dRetN_ap : dRetN st = some (.rt (.d .none), st) := (rfl)
@[simp] theorem dIfS_ap (t f g) : dIfS t f g st = obind (t st) (kIf f g) := (rfl)
theorem forGo_nil (g b) : forGo g b [] st = some (.nx, st) := (rfl)
theorem forGo_cons (g b x xs) : forGo g b (x :: xs) st = obind (g x st) (kFora g b xs) := (rfl)
@[simp] theorem kFora_ap (g b xs) : kFora g b xs s = obind (b s) (kForb g b xs) := (rfl)
@[simp] theorem kForb_nx (g b xs) : kForb g b xs (.nx, s) = forGo g b xs s := (rfl)
@[simp] theorem kForb_ct (g b xs) : kForb g b xs (.ct, s) = forGo g b xs s := (rfl)
@[simp] theorem kForb_bk (g b xs) : kForb g b xs (.bk, s) = some (.nx, s) := (rfl)
@[simp] theorem kForb_rt (g b xs r) : kForb g b xs (.rt r, s) = some (.rt r, s) := (rfl)
@[simp] theorem dFor_ap (it g b) : dFor it g b st = obind (it st) (kFor g b) := (rfl)
@[simp] theorem kFor_ap (g b xs) : kFor g b (xs, s) = forGo g b xs s := (rfl)
@[simp] theorem arS_d (x) : arS (.d x) = .d x := (rfl)
@[simp] theorem arS_m (x) : arS (.m x) = .lent x := (rfl)
@[simp] theorem outsGo_nil (i) : outsGo st [] i = some [] := (rfl)
@[simp] theorem outsGo_d (x r i) : outsGo st (.d x :: r) i = outsGo st r (i + 1) := (rfl)
@[simp] theorem outsGo_m (x r i) : outsGo st (.m x :: r) i = kOutsM (st.getD i none) st r i := (rfl)
@[simp] theorem kOutsM_ap (xs r i) : kOutsM (some (.lent xs)) st r i = obind (outsGo st r (i + 1)) (kOuts xs) := (rfl)
@[simp] theorem kOuts_ap (xs o) : kOuts xs o = some (xs :: o) := (rfl)
end
theorem run_ap (n b as) : run n b as = obind (b (startD n as)) (kRun as) := (rfl)
@[simp] theorem kRun_ap (as f s) : kRun as (f, s) = obind (outsGo s as 0) (kRunb f) := (rfl)
@[simp] theorem kRunb_nx (o) : kRunb .nx o = some (.d .none, o) := (rfl)
@[simp] theorem kRunb_rt (r o) : kRunb (.rt r) o = some (r, o) := (rfl)
theorem whileN_det (t : DT) (b : DS) : ∀ (n m : Nat) (st : DSt) (r s), whileN t b n st = some r → whileN t b m st = some s → r = s := by
  intro n
  induction n with
  | zero => intro m st r s h _; simp [whileN] at h
  | succ n ih =>
    intro m st r s h h'
    cases m with
    | zero => simp [whileN] at h'
    | succ m =>
      simp only [whileN] at h h'
      cases ht : t st with
      | none => rw [ht] at h; simp at h
      | some q =>
        rw [ht] at h h'
        simp only [Option.bind_some] at h h'
        by_cases hq : q.1 = true
        · rw [if_pos hq] at h h'
          cases hb : b q.2 with
          | none => rw [hb] at h; simp at h
          | some p =>
            rw [hb] at h h'
            simp only [Option.bind_some] at h h'
            rcases p with ⟨p1, p2⟩
            cases p1 with
            | nx => exact ih m _ _ _ h h'
            | ct => exact ih m _ _ _ h h'
            | bk => rw [← Option.some.inj h, ← Option.some.inj h']
            | rt x => rw [← Option.some.inj h, ← Option.some.inj h']
        · rw [if_neg hq] at h h'
          rw [← Option.some.inj h, ← Option.some.inj h']
theorem dWhile_of {t : DT} {b : DS} {n : Nat} {st : DSt} {r} (h : whileN t b n st = some r) : dWhile t b st = some r := by
  unfold dWhile
  have hx : ∃ n r, whileN t b n st = some r := ⟨n, r, h⟩
  rw [dif_pos hx]
  exact congrArg some (whileN_det t b _ _ _ _ _ (Classical.choose_spec (Classical.choose_spec hx)) h)
theorem whileN_more {t : DT} {b : DS} {n : Nat} {st st' : DSt} {r} (ht : t st = some (true, st)) (hb : b st = some (.nx, st')) (h : whileN t b n st' = some r) : whileN t b (n + 1) st = some r := by
  simp only [whileN, ht, hb, Option.bind_some, if_true]
  exact h
theorem whileN_end {t : DT} {b : DS} {n : Nat} {st : DSt} (ht : t st = some (false, st)) : whileN t b (n + 1) st = some (.nx, st) := by
  simp only [whileN, ht, Option.bind_some, if_neg Bool.false_ne_true]
/-! ### operators on numbers -/
@[simp] theorem opAdd_ii (i j : Int) : opAdd (.int i) (.int j) = some (.d (.int (i + j))) := (rfl)
@[simp] theorem opAdd_ll (xs ys : List D) : opAdd (.list xs) (.list ys) = if xs.length + ys.length ≤ sizeLine then some (.tmp (xs ++ ys)) else none := (rfl)
@[simp] theorem opAddI_ii (i j : Int) : opAddI (.int i) (.int j) = some (.d (.int (i + j))) := (rfl)
@[simp] theorem opSub_ii (i j : Int) : opSub (.int i) (.int j) = some (.d (.int (i - j))) := (rfl)
@[simp] theorem opMul_ii (i j : Int) : opMul (.int i) (.int j) = if i.natAbs.log2 + j.natAbs.log2 < 1000000 then some (.d (.int (i * j))) else none := (rfl)
@[simp] theorem opMul_li (xs : List D) (k : Int) : opMul (.list xs) (.int k) = if -(2 ^ 63) ≤ k ∧ k < 2 ^ 63 ∧ xs.length * k.toNat ≤ sizeLine then some (.tmp (List.replicate k.toNat xs).flatten) else none := (rfl)
@[simp] theorem opDiv_ii (i j : Int) : opDiv (.int i) (.int j) = if 0 < j ∧ j.natAbs.log2 < 9000 then some (.d (.int (i / j))) else none := (rfl)
@[simp] theorem opMod_ii (i j : Int) : opMod (.int i) (.int j) = if 0 < j then some (.d (.int (i % j))) else none := (rfl)
@[simp] theorem opPow_ii (i j : Int) : opPow (.int i) (.int j) = if 0 ≤ j ∧ j ≤ 1000000 ∧ i.natAbs < 2 ^ 64 then some (.d (.int (i ^ j.toNat))) else none := (rfl)
@[simp] theorem opNeg_i (i : Int) : opNeg (.int i) = some (.d (.int (-i))) := (rfl)
@[simp] theorem opLt_ii (i j : Int) : opLt (.int i) (.int j) = some (.d (.bool (decide (i < j)))) := (rfl)
@[simp] theorem opLe_ii (i j : Int) : opLe (.int i) (.int j) = some (.d (.bool (decide (i ≤ j)))) := (rfl)
@[simp] theorem opGt_ii (i j : Int) : opGt (.int i) (.int j) = some (.d (.bool (decide (j < i)))) := (rfl)
@[simp] theorem opGe_ii (i j : Int) : opGe (.int i) (.int j) = some (.d (.bool (decide (j ≤ i)))) := (rfl)
@[simp] theorem eqv_ii (i j : Int) : PyData.eqv (.int i) (.int j) = (i == j) := by simp [PyData.eqv]
@[simp] theorem shaped_i (i : Int) : flat (.int i) = true := by simp [flat, PyData.plain, PyData.depth]
@[simp] theorem opEq_ii (i j : Int) : opEq (.int i) (.int j) = some (.d (.bool (i == j))) := by simp [opEq]
@[simp] theorem opNe_ii (i j : Int) : opNe (.int i) (.int j) = some (.d (.bool (!(i == j)))) := by simp [opNe]
@[simp] theorem opIx_li (xs : List D) (i : Int) : opIx (.list xs) (.int i) = obind (ixAt xs i) fun n => obind (xs[n]?) fun x => some (.d x) := (rfl)
@[simp] theorem opIx_ti (xs : List D) (i : Int) : opIx (.tuple xs) (.int i) = obind (ixAt xs i) fun n => obind (xs[n]?) fun x => some (.d x) := (rfl)
@[simp] theorem ixAt_ap {α : Type} (xs : List α) (i : Int) : ixAt xs i = if 0 ≤ i then (if i < xs.length then some i.toNat else none) else if -(xs.length : Int) ≤ i then some (i + xs.length).toNat else none := (rfl)
@[simp] theorem bLen_l (xs : List D) : bLen [.list xs] = some (.d (.int xs.length)) := (rfl)
@[simp] theorem bLen_t (xs : List D) : bLen [.tuple xs] = some (.d (.int xs.length)) := (rfl)
@[simp] theorem bInt_i (i : Int) : bInt [.int i] = some (.d (.int i)) := (rfl)
@[simp] theorem bInt_b (b : Bool) : bInt [.bool b] = some (.d (.int (if b then 1 else 0))) := (rfl)
@[simp] theorem boolsOf_nil : boolsOf [] = some [] := (rfl)
@[simp] theorem boolsOf_cons (b r) : boolsOf (.bool b :: r) = obind (boolsOf r) fun bs => some (b :: bs) := (rfl)
@[simp] theorem bAll_l (xs : List D) : bAll [.list xs] = obind (boolsOf xs) fun bs => some (.d (.bool (bs.all id))) := (rfl)
@[simp] theorem bAny_l (xs : List D) : bAny [.list xs] = obind (boolsOf xs) fun bs => some (.d (.bool (bs.any id))) := (rfl)
@[simp] theorem bSum_l (xs : List D) : bSum [.list xs] = obind (intsOf xs) fun is => some (.d (.int is.sum)) := (rfl)
@[simp] theorem bList_l (xs : List D) : bList [.list xs] = some (.tmp xs) := (rfl)
@[simp] theorem bList_t (xs : List D) : bList [.tuple xs] = some (.tmp xs) := (rfl)
@[simp] theorem bIsi_none (T) : bIsi T .none = some (.d (.bool (isTy .none T))) := (rfl)
@[simp] theorem bIsi_b (T b) : bIsi T (.bool b) = some (.d (.bool (isTy (.bool b) T))) := (rfl)
@[simp] theorem bIsi_i (T b) : bIsi T (.int b) = some (.d (.bool (isTy (.int b) T))) := (rfl)
@[simp] theorem bIsi_s (T b) : bIsi T (.str b) = some (.d (.bool (isTy (.str b) T))) := (rfl)
@[simp] theorem bIsi_l (T b) : bIsi T (.list b) = some (.d (.bool (isTy (.list b) T))) := (rfl)
@[simp] theorem bIsi_t (T b) : bIsi T (.tuple b) = some (.d (.bool (isTy (.tuple b) T))) := (rfl)
@[simp] theorem bIsi2_none (T U) : bIsi2 T U .none = some (.d (.bool (isTy .none T || isTy .none U))) := (rfl)
@[simp] theorem bIsi2_b (T U b) : bIsi2 T U (.bool b) = some (.d (.bool (isTy (.bool b) T || isTy (.bool b) U))) := (rfl)
@[simp] theorem bIsi2_i (T U b) : bIsi2 T U (.int b) = some (.d (.bool (isTy (.int b) T || isTy (.int b) U))) := (rfl)
@[simp] theorem bIsi2_s (T U b) : bIsi2 T U (.str b) = some (.d (.bool (isTy (.str b) T || isTy (.str b) U))) := (rfl)
@[simp] theorem bIsi2_l (T U b) : bIsi2 T U (.list b) = some (.d (.bool (isTy (.list b) T || isTy (.list b) U))) := (rfl)
@[simp] theorem bIsi2_t (T U b) : bIsi2 T U (.tuple b) = some (.d (.bool (isTy (.tuple b) T || isTy (.tuple b) U))) := (rfl)
@[simp] theorem tyName_none : tyName .none = "NoneType" := (rfl)
@[simp] theorem tyName_b (b) : tyName (.bool b) = "bool" := (rfl)
@[simp] theorem tyName_i (b) : tyName (.int b) = "int" := (rfl)
@[simp] theorem tyName_s (b) : tyName (.str b) = "str" := (rfl)
@[simp] theorem tyName_l (b) : tyName (.list b) = "list" := (rfl)
@[simp] theorem tyName_t (b) : tyName (.tuple b) = "tuple" := (rfl)
@[simp] theorem isTy_ap (x T) : isTy x T = (tyName x == T || (T == "int" && tyName x == "bool")) := (rfl)
@[simp] theorem opIs_ap (x y) : opIs x y = obind (isV x y) fun b => some (.d (.bool b)) := (rfl)
@[simp] theorem opIsNot_ap (x y) : opIsNot x y = obind (isV x y) fun b => some (.d (.bool (!b))) := (rfl)
@[simp] theorem isV_nn : isV .none .none = some true := (rfl)
@[simp] theorem isV_bn (b) : isV (.bool b) .none = some false := (rfl)
@[simp] theorem isV_in (b) : isV (.int b) .none = some false := (rfl)
@[simp] theorem isV_sn (b) : isV (.str b) .none = some false := (rfl)
@[simp] theorem isV_ln (b) : isV (.list b) .none = some false := (rfl)
@[simp] theorem isV_tn (b) : isV (.tuple b) .none = some false := (rfl)
@[simp] theorem isV_bb (b c) : isV (.bool b) (.bool c) = some (b == c) := (rfl)
@[simp] theorem isV_nb (c) : isV .none (.bool c) = some false := (rfl)
@[simp] theorem isV_ib (b c) : isV (.int b) (.bool c) = some false := (rfl)
@[simp] theorem isV_sb (b c) : isV (.str b) (.bool c) = some false := (rfl)
@[simp] theorem isV_lb (b c) : isV (.list b) (.bool c) = some false := (rfl)
@[simp] theorem isV_tb (b c) : isV (.tuple b) (.bool c) = some false := (rfl)
@[simp] theorem opSlice_l (xs lo hi) : opSlice (.list xs) lo hi = some (.tmp (cutD xs lo hi)) := (rfl)
@[simp] theorem opRev_l (xs) : opRev (.list xs) = some (.tmp xs.reverse) := (rfl)
@[simp] theorem iList_l (xs) : iList (.list xs) = some xs := (rfl)
@[simp] theorem iTup_l (xs) : iTup (.tuple xs) = some xs := (rfl)
@[simp] theorem iSeq_l (xs) : iSeq (.list xs) = some xs := (rfl)
@[simp] theorem iSeq_t (xs) : iSeq (.tuple xs) = some xs := (rfl)
@[simp] theorem iZip_l (xs ys) : iZip [.list xs, .list ys] = some ((xs.zip ys).map fun p => .tuple [p.1, p.2]) := (rfl)
@[simp] theorem iZip_t (xs ys) : iZip [.tuple xs, .tuple ys] = some ((xs.zip ys).map fun p => .tuple [p.1, p.2]) := (rfl)
@[simp] theorem iEnum_l (xs) : iEnum [.list xs] = some (xs.zipIdx.map fun p => .tuple [.int (p.2 : Nat), p.1]) := (rfl)
@[simp] theorem iRange1_i (n : Int) : iRange1 [.int n] = if -(2 ^ 62) ≤ n ∧ n < 2 ^ 62 then some ((List.range n.toNat).map fun i => .int (0 + (i : Nat))) else none := (rfl)
@[simp] theorem iRange2_i (a b : Int) : iRange2 [.int a, .int b] = if -(2 ^ 62) ≤ a ∧ a < 2 ^ 62 ∧ -(2 ^ 62) ≤ b ∧ b < 2 ^ 62 then some ((List.range (b - a).toNat).map fun i => .int (a + (i : Nat))) else none := (rfl)
/-! ### the further ones -/
def kChainOut (s : DSt) (op' : D → D → Option Rv) (o : Option D) (x : D) : Option (Rv × DSt) := o.bind fun u => (op' x u).bind (kRet s)
def kChaind (op' : D → D → Option Rv) (r2 : Rv) (w : Rv × DSt) : Option (Rv × DSt) := (look w.2 r2).bind (kChainOut w.2 op' (look w.2 w.1))
def kChainc (op' : D → D → Option Rv) (h : DE) (r2 : Rv) (s : DSt) (z : Rv) : Option (Rv × DSt) := match z with
  | .d (.bool true) => (h s).bind (kChaind op' r2)
  | .d (.bool false) => some (.d (.bool false), s)
  | _ => none
def kChainb2 (op op' : D → D → Option Rv) (h : DE) (r2 : Rv) (s : DSt) (o : Option D) (x : D) : Option (Rv × DSt) := o.bind fun y => (op x y).bind (kChainc op' h r2 s)
def kChainb (op op' : D → D → Option Rv) (h : DE) (r : Rv) (q : Rv × DSt) : Option (Rv × DSt) := (look q.2 r).bind (kChainb2 op op' h q.1 q.2 (look q.2 q.1))
def kChain (op op' : D → D → Option Rv) (g h : DE) (p : Rv × DSt) : Option (Rv × DSt) := (g p.2).bind (kChainb op op' h p.1)
theorem kChainc_eq (op' h r2 s) (z : Rv) : (match z with
  | .d (.bool true) => (h s).bind fun w => (look w.2 r2).bind fun y' => (look w.2 w.1).bind fun u => (op' y' u).bind fun z' => some (z', w.2)
  | .d (.bool false) => some (Rv.d (.bool false), s)
  | _ => none) = kChainc op' h r2 s z := by
  unfold kChainc
  rcases z with z | z | z
  · cases z with
    | bool b => cases b <;> rfl
    | none => rfl
    | int b => rfl
    | str b => rfl
    | list b => rfl
    | tuple b => rfl
    | dict b => rfl
  · rfl
  · rfl
@[simp] theorem dChain_ap (op op' f g h) (st : DSt) : dChain op op' f g h st = obind (f st) (kChain op op' g h) := by
  show (f st).bind _ = (f st).bind _
  congr 1
@[simp] theorem kChain_ap (op op' g h r) (s : DSt) : kChain op op' g h (r, s) = obind (g s) (kChainb op op' h r) := (rfl)
@[simp] theorem kChainb_ap (op op' h r r2) (s : DSt) : kChainb op op' h r (r2, s) = obind (look s r) (kChainb2 op op' h r2 s (look s r2)) := (rfl)
@[simp] theorem kChainb2_ap (op op' h r2 y x) (s : DSt) : kChainb2 op op' h r2 s (some y) x = obind (op x y) (kChainc op' h r2 s) := (rfl)
@[simp] theorem kChainc_ap (op' h r2 b) (s : DSt) : kChainc op' h r2 s (.d (.bool b)) = if b = true then obind (h s) (kChaind op' r2) else some (.d (.bool false), s) := by cases b <;> rfl
@[simp] theorem kChaind_ap (op' r2 w) (s : DSt) : kChaind op' r2 (w, s) = obind (look s r2) (kChainOut s op' (look s w)) := (rfl)
@[simp] theorem kChainOut_ap (op' u x) (s : DSt) : kChainOut s op' (some u) x = obind (op' x u) (kRet s) := (rfl)
@[simp] theorem dIfT_ap (t f g) (st : DSt) : dIfT t f g st = obind (t st) (kIf f g) := (rfl)
@[simp] theorem bMax2_ii (i j : Int) : bMax2 [.int i, .int j] = some (.d (.int (if j > i then j else i))) := (rfl)
@[simp] theorem opBits_i (i : Int) : opBits (.int i) = some (.d (.int (Builtin.Int.intBits i : Nat))) := (rfl)
@[simp] theorem opAddT_tt (xs ys) : opAddT (.tuple xs) (.tuple ys) = if xs.length + ys.length ≤ sizeLine then some (.d (.tuple (xs ++ ys))) else none := (rfl)
@[simp] theorem opSliceT_t (xs lo hi) : opSliceT (.tuple xs) lo hi = some (.d (.tuple (cutD xs lo hi))) := (rfl)
@[simp] theorem bTuple_l (xs) : bTuple [.list xs] = some (.d (.tuple xs)) := (rfl)
@[simp] theorem bTuple_t (xs) : bTuple [.tuple xs] = some (.d (.tuple xs)) := (rfl)
@[simp] theorem opPowW_ii (i j : Int) : opPowW (.int i) (.int j) = if 0 ≤ j ∧ (Builtin.Int.intBits i : Int) * j ≤ 2 ^ 27 then some (.d (.int (i ^ j.toNat))) else none := (rfl)
@[simp] theorem fz_d (x) : fz (some (.d x)) = some (.d x) := (rfl)
@[simp] theorem fz_own' (x) : fz (some (.own x)) = some (.d (.list x)) := (rfl)
@[simp] theorem fz_lent' (x) : fz (some (.lent x)) = some (.d (.list x)) := (rfl)
@[simp] theorem fz_none : fz none = none := (rfl)
@[simp] theorem freeze_nil : freeze [] = [] := (rfl)
@[simp] theorem freeze_cons (o r) : freeze (o :: r) = fz o :: freeze r := (rfl)
def kAsgO2 (i j : Nat) (r : Rv) (q : Rv × DSt) : Option (Fl × DSt) := match r, q.1 with
  | .d x, .tmp ys => (setS q.2 j (.own ys)).bind fun s => (setS s i (.d x)).bind kNx
  | _, _ => none
def kAsgO (i j : Nat) (g : DE) (p : Rv × DSt) : Option (Fl × DSt) := (g p.2).bind (kAsgO2 i j p.1)
def kAsgO3 (i : Nat) (x : D) (s : DSt) : Option (Fl × DSt) := (setS s i (.d x)).bind kNx
@[simp] theorem dAsgO_ap (i j f g) (st : DSt) : dAsgO i j f g st = obind (f st) (kAsgO i j g) := (rfl)
@[simp] theorem kAsgO_ap (i j g r) (s : DSt) : kAsgO i j g (r, s) = obind (g s) (kAsgO2 i j r) := (rfl)
@[simp] theorem kAsgO2_ap (i j x ys) (s : DSt) : kAsgO2 i j (.d x) (.tmp ys, s) = obind (setS s j (.own ys)) (kAsgO3 i x) := (rfl)
@[simp] theorem kAsgO3_ap (i x) (s : DSt) : kAsgO3 i x s = obind (setS s i (.d x)) kNx := (rfl)
def kBorrow (st : DSt) (p : Rv × DSt) : Option (Rv × DSt) := match p.1 with
  | .d x => if atomD x = true then some (.d x, st) else none
  | _ => none
def kBorrowT (st : DSt) (p : Bool × DSt) : Option (Bool × DSt) := some (p.1, st)
@[simp] theorem dBorrow_ap (f) (st : DSt) : dBorrow f st = obind (f (freeze st)) (kBorrow st) := (rfl)
@[simp] theorem kBorrow_d (x s) (st : DSt) : kBorrow st (.d x, s) = if atomD x = true then some (.d x, st) else none := (rfl)
@[simp] theorem dBorrowT_ap (f) (st : DSt) : dBorrowT f st = obind (f (freeze st)) (kBorrowT st) := (rfl)
@[simp] theorem kBorrowT_ap (b s) (st : DSt) : kBorrowT st (b, s) = some (b, st) := (rfl)
/-- whole numbers written in a slot list -/
theorem sizeLine_eq : sizeLine = 16777216 := (rfl)
/-! further ones -/
section
variable {st s : DSt}
@[simp] theorem dDict0_ap (st : DSt) : dDict0 st = some (.d (.dict []), st) := (rfl)
@[simp] theorem bIsi_dict (T b) : bIsi T (.dict b) = some (.d (.bool (isTy (.dict b) T))) := (rfl)
@[simp] theorem bIsi2_dict (T U b) : bIsi2 T U (.dict b) = some (.d (.bool (isTy (.dict b) T || isTy (.dict b) U))) := (rfl)
def kLm : Option Int → Option Rv
  | some m => some (.d (.int m))
  | none => none
@[simp] theorem bMaxL_ap (xs) : bMaxL [.list xs] = obind (intsOf xs) (fun is => kLm (maxOf is)) := by
  show (intsOf xs).bind _ = _
  cases intsOf xs with
  | none => rfl
  | some is => show (maxOf is).bind _ = kLm (maxOf is); cases maxOf is <;> rfl
@[simp] theorem bMinL_ap (xs) : bMinL [.list xs] = obind (intsOf xs) (fun is => kLm (minOf is)) := by
  show (intsOf xs).bind _ = _
  cases intsOf xs with
  | none => rfl
  | some is => show (minOf is).bind _ = kLm (minOf is); cases minOf is <;> rfl
@[simp] theorem kLm_some (m) : kLm (some m) = some (.d (.int m)) := (rfl)
def kCallT4 (st : DSt) (r : Rt × List (List D)) : Option (Rv × DSt) := some (rvOf r.1, st)
def kCallT3 (g : Fn) (n : Nat) (more xs : List D) (rs : List Rv) (w : List D × DSt) : Option (Rv × DSt) := if rs.length = n then (g (.m xs :: (w.1 ++ more).map Ar.d)).bind (kCallT4 w.2) else none
def kCallT2 (g : Fn) (n : Nat) (more xs : List D) (q : List Rv × DSt) : Option (Rv × DSt) := (toDs q.2 q.1).bind (kCallT3 g n more xs q.1)
def kCallT (g : Fn) (n : Nat) (more : List D) (h : DA) (p : Rv × DSt) : Option (Rv × DSt) := match p.1 with
  | .tmp xs => (h p.2).bind (kCallT2 g n more xs)
  | _ => none
@[simp] theorem dCallT_ap (g n more f h) (st : DSt) : dCallT g n more f h st = obind (f st) (kCallT g n more h) := (rfl)
@[simp] theorem kCallT_ap (g n more h xs) (s : DSt) : kCallT g n more h (.tmp xs, s) = obind (h s) (kCallT2 g n more xs) := (rfl)
@[simp] theorem kCallT2_ap (g n more xs rs) (s : DSt) : kCallT2 g n more xs (rs, s) = obind (toDs s rs) (kCallT3 g n more xs rs) := (rfl)
@[simp] theorem kCallT3_ap (g n more xs rs ds) (s : DSt) : kCallT3 g n more xs rs (ds, s) = if rs.length = n then obind (g (.m xs :: (ds ++ more).map Ar.d)) (kCallT4 s) else none := (rfl)
@[simp] theorem kCallT4_ap (st : DSt) (r o) : kCallT4 st (r, o) = some (rvOf r, st) := (rfl)
def kParS4 (s : DSt) : Option (Fl × DSt) := some (.nx, s)
def kParS3 (is : List Nat) (ds : List D) (s : DSt) : Option (Fl × DSt) := (dPar.parGo is ds s).bind kParS4
def kParS2 (i : Nat) (is : List Nat) (xs : List D) (w : List D × DSt) : Option (Fl × DSt) := (setS w.2 i (.own xs)).bind (kParS3 is w.1)
def kParS1 (i : Nat) (is : List Nat) (xs : List D) (q : List Rv × DSt) : Option (Fl × DSt) := (toDs q.2 q.1).bind (kParS2 i is xs)
def kParS (i : Nat) (is : List Nat) (h : DA) (p : Rv × DSt) : Option (Fl × DSt) := match p.1 with
  | .tmp xs => (h p.2).bind (kParS1 i is xs)
  | _ => none
@[simp] theorem dParS_ap (i is f h) (st : DSt) : dParS i is f h st = obind (f st) (kParS i is h) := (rfl)
@[simp] theorem kParS_ap (i is h xs) (s : DSt) : kParS i is h (.tmp xs, s) = obind (h s) (kParS1 i is xs) := (rfl)
@[simp] theorem kParS1_ap (i is xs rs) (s : DSt) : kParS1 i is xs (rs, s) = obind (toDs s rs) (kParS2 i is xs) := (rfl)
@[simp] theorem kParS2_ap (i is xs ds) (s : DSt) : kParS2 i is xs (ds, s) = obind (setS s i (.own xs)) (kParS3 is ds) := (rfl)
@[simp] theorem kParS3_ap (is ds) (s : DSt) : kParS3 is ds s = obind (dPar.parGo is ds s) kParS4 := (rfl)
@[simp] theorem kParS4_ap (s : DSt) : kParS4 s = some (.nx, s) := (rfl)
def kParQ2 (i j : Nat) (is : List Nat) (x : D) (ys : List D) (w : List D × DSt) : Option (Fl × DSt) := (setS w.2 i (.d x)).bind fun s1 => (setS s1 j (.own ys)).bind (kParS3 is w.1)
def kParQ1 (i j : Nat) (is : List Nat) (x : D) (ys : List D) (u : List Rv × DSt) : Option (Fl × DSt) := (toDs u.2 u.1).bind (kParQ2 i j is x ys)
def kParQb (i j : Nat) (is : List Nat) (h : DA) (r : Rv) (q : Rv × DSt) : Option (Fl × DSt) := match r, q.1 with
  | .d x, .tmp ys => (h q.2).bind (kParQ1 i j is x ys)
  | _, _ => none
def kParQ (i j : Nat) (is : List Nat) (g : DE) (h : DA) (p : Rv × DSt) : Option (Fl × DSt) := (g p.2).bind (kParQb i j is h p.1)
@[simp] theorem dParQ_ap (i j is f g h) (st : DSt) : dParQ i j is f g h st = obind (f st) (kParQ i j is g h) := (rfl)
@[simp] theorem kParQ_ap (i j is g h r) (s : DSt) : kParQ i j is g h (r, s) = obind (g s) (kParQb i j is h r) := (rfl)
@[simp] theorem kParQb_ap (i j is h x ys) (s : DSt) : kParQb i j is h (.d x) (.tmp ys, s) = obind (h s) (kParQ1 i j is x ys) := (rfl)
@[simp] theorem kParQ1_ap (i j is x ys rs) (s : DSt) : kParQ1 i j is x ys (rs, s) = obind (toDs s rs) (kParQ2 i j is x ys) := (rfl)
def kParQ3 (j : Nat) (is : List Nat) (ys ds : List D) (s1 : DSt) : Option (Fl × DSt) := (setS s1 j (.own ys)).bind (kParS3 is ds)
@[simp] theorem kParQ2_ap (i j is x ys ds) (s : DSt) : kParQ2 i j is x ys (ds, s) = obind (setS s i (.d x)) (kParQ3 j is ys ds) := (rfl)
@[simp] theorem kParQ3_ap (j is ys ds) (s : DSt) : kParQ3 j is ys ds s = obind (setS s j (.own ys)) (kParS3 is ds) := (rfl)
/-! in, min, sorted -/
@[simp] theorem opIn_ap (x y) : opIn x y = obind (opInB x y) fun b => some (.d (.bool b)) := (rfl)
@[simp] theorem opNotIn_ap (x y) : opNotIn x y = obind (opInB x y) fun b => some (.d (.bool (!b))) := (rfl)
@[simp] theorem bMin2_ii (i j : Int) : bMin2 [.int i, .int j] = some (.d (.int (if j < i then j else i))) := (rfl)
@[simp] theorem bSorted_l (xs) : bSorted [.list xs] = if sortable xs = true then some (.tmp (sortD xs)) else none := (rfl)
@[simp] theorem opNe_bb (a b : Bool) : opNe (.bool a) (.bool b) = some (.d (.bool (!(a == b)))) := by cases a <;> cases b <;> rfl
@[simp] theorem isV_dn (k) : isV (.dict k) .none = some false := (rfl)
/-! list(range); remove; loops over one's own list; two new lists -/
@[simp] theorem atomD_b (b) : atomD (.bool b) = true := (rfl)
@[simp] theorem atomD_i (b) : atomD (.int b) = true := (rfl)
@[simp] theorem atomD_s (b) : atomD (.str b) = true := (rfl)
@[simp] theorem atomD_n : atomD .none = true := (rfl)
def kListRb (s : DSt) (x : Option D) : Option (Rv × DSt) := match x with
  | some (.int n) => if n ≤ 16777216 ∧ -(2 ^ 62) ≤ n then some (.tmp ((List.range n.toNat).map fun i => .int (0 + (i : Nat))), s) else none
  | _ => none
def kListR (p : Rv × DSt) : Option (Rv × DSt) := kListRb p.2 (look p.2 p.1)
@[simp] theorem dListR_ap (f) (st : DSt) : dListR f st = obind (f st) kListR := (rfl)
@[simp] theorem kListR_ap (r) (s : DSt) : kListR (r, s) = kListRb s (look s r) := (rfl)
@[simp] theorem kListRb_ap (n : Int) (s : DSt) : kListRb s (some (.int n)) = if n ≤ 16777216 ∧ -(2 ^ 62) ≤ n then some (.tmp ((List.range n.toNat).map fun i => .int (0 + (i : Nat))), s) else none := (rfl)
def kRemD (i : Nat) (s : DSt) (r : List Int) : Option (Fl × DSt) := (putL s i (r.map .int)).bind kNx
def kRemC (i : Nat) (s : DSt) (k : Int) (is : List Int) : Option (Fl × DSt) := (removeI k is).bind (kRemD i s)
def kRemB (i : Nat) (s : DSt) (k : Int) (xs : List D) : Option (Fl × DSt) := (intsOf xs).bind (kRemC i s k)
def kRemA (i : Nat) (q : D × DSt) : Option (Fl × DSt) := match q.1 with
  | .int k => (getL q.2 i).bind (kRemB i q.2 k)
  | _ => none
def kRem2 (i : Nat) (p : Rv × DSt) : Option (Fl × DSt) := (toD p.2 p.1).bind (kRemA i)
def kRem1 (i : Nat) (f : DE) (st : DSt) (xs : List D) : Option (Fl × DSt) := (f st).bind (kRem2 i)
@[simp] theorem dRemove_ap (i f) (st : DSt) : dRemove i f st = obind (getL st i) (kRem1 i f st) := (rfl)
@[simp] theorem kRem1_ap (i f) (st : DSt) (xs) : kRem1 i f st xs = obind (f st) (kRem2 i) := (rfl)
@[simp] theorem kRem2_ap (i r) (s : DSt) : kRem2 i (r, s) = obind (toD s r) (kRemA i) := (rfl)
@[simp] theorem kRemA_ap (i k) (s : DSt) : kRemA i (.int k, s) = obind (getL s i) (kRemB i s k) := (rfl)
@[simp] theorem kRemB_ap (i s k xs) : kRemB i s k xs = obind (intsOf xs) (kRemC i s k) := (rfl)
@[simp] theorem kRemC_ap (i s k is) : kRemC i s k is = obind (removeI k is) (kRemD i s) := (rfl)
@[simp] theorem kRemD_ap (i s r) : kRemD i s r = obind (putL s i (r.map .int)) kNx := (rfl)
noncomputable def kForBb (i : Nat) (full : List D) (g : DG) (b : DS) (xs : List D) (p : Fl × DSt) : Option (Fl × DSt) := match p.1 with
  | .nx => forGoB i full g b xs p.2
  | _ => none
noncomputable def kForBa (i : Nat) (full : List D) (g : DG) (b : DS) (xs : List D) (s : DSt) : Option (Fl × DSt) := (b s).bind (kForBb i full g b xs)
noncomputable def kForBs (i : Nat) (g : DG) (b : DS) (st : DSt) (xs : List D) : Option (Fl × DSt) := forGoB i xs g b xs st
@[simp] theorem dForB_ap (i g b) (st : DSt) : dForB i g b st = obind (getL st i) (kForBs i g b st) := (rfl)
@[simp] theorem kForBs_ap (i g b) (st : DSt) (xs) : kForBs i g b st xs = forGoB i xs g b xs st := (rfl)
theorem forGoB_nil (i full g b) (st : DSt) (h : getL st i = some full) : forGoB i full g b [] st = some (.nx, st) := by
  unfold forGoB
  rw [if_pos h]
theorem forGoB_cons (i full g b x xs) (st : DSt) (h : getL st i = some full) : forGoB i full g b (x :: xs) st = obind (g x st) (kForBa i full g b xs) := by
  rw [forGoB, if_pos h]
  rfl
@[simp] theorem kForBa_ap (i full g b xs) (s : DSt) : kForBa i full g b xs s = obind (b s) (kForBb i full g b xs) := (rfl)
@[simp] theorem kForBb_ap (i full g b xs) (s : DSt) : kForBb i full g b xs (.nx, s) = forGoB i full g b xs s := (rfl)
def kParW2 (i j : Nat) (is : List Nat) (xs ys : List D) (w : List D × DSt) : Option (Fl × DSt) := (setS w.2 i (.own xs)).bind (kParQ3 j is ys w.1)
def kParW1 (i j : Nat) (is : List Nat) (xs ys : List D) (u : List Rv × DSt) : Option (Fl × DSt) := (toDs u.2 u.1).bind (kParW2 i j is xs ys)
def kParWb (i j : Nat) (is : List Nat) (h : DA) (r : Rv) (q : Rv × DSt) : Option (Fl × DSt) := match r, q.1 with
  | .tmp xs, .tmp ys => (h q.2).bind (kParW1 i j is xs ys)
  | _, _ => none
def kParW (i j : Nat) (is : List Nat) (g : DE) (h : DA) (p : Rv × DSt) : Option (Fl × DSt) := (g p.2).bind (kParWb i j is h p.1)
@[simp] theorem dParW_ap (i j is f g h) (st : DSt) : dParW i j is f g h st = obind (f st) (kParW i j is g h) := (rfl)
@[simp] theorem kParW_ap (i j is g h r) (s : DSt) : kParW i j is g h (r, s) = obind (g s) (kParWb i j is h r) := (rfl)
@[simp] theorem kParWb_ap (i j is h xs ys) (s : DSt) : kParWb i j is h (.tmp xs) (.tmp ys, s) = obind (h s) (kParW1 i j is xs ys) := (rfl)
@[simp] theorem kParW1_ap (i j is xs ys rs) (s : DSt) : kParW1 i j is xs ys (rs, s) = obind (toDs s rs) (kParW2 i j is xs ys) := (rfl)
@[simp] theorem kParW2_ap (i j is xs ys ds) (s : DSt) : kParW2 i j is xs ys (ds, s) = obind (setS s i (.own xs)) (kParQ3 j is ys ds) := (rfl)
/-! shifts; zips -/
@[simp] theorem opShl_ii (i j : Int) : opShl (.int i) (.int j) = if 0 ≤ j ∧ j ≤ 1000000 ∧ i.natAbs < 2 ^ 64 then some (.d (.int (i * 2 ^ j.toNat))) else none := (rfl)
@[simp] theorem opShr_ii (i j : Int) : opShr (.int i) (.int j) = if 0 ≤ j then some (.d (.int (i / 2 ^ j.toNat))) else none := (rfl)
@[simp] theorem iZipL_ll (xs ys) : iZipL [.list xs, .list ys] = some ((xs.zip ys).map fun p => .tuple [p.1, p.2]) := (rfl)
def kLz3 (s : DSt) (xs : List D) : Option (Rv × DSt) := some (.tmp xs, s)
def kLz2 (q : List D × DSt) : Option (Rv × DSt) := (iZipL q.1).bind (kLz3 q.2)
def kLz1 (p : List Rv × DSt) : Option (Rv × DSt) := (toDs p.2 p.1).bind kLz2
@[simp] theorem dListZip_ap (f) (st : DSt) : dListZip f st = obind (f st) kLz1 := (rfl)
@[simp] theorem kLz1_ap (rs) (s : DSt) : kLz1 (rs, s) = obind (toDs s rs) kLz2 := (rfl)
@[simp] theorem kLz2_ap (ds) (s : DSt) : kLz2 (ds, s) = obind (iZipL ds) (kLz3 s) := (rfl)
@[simp] theorem kLz3_ap (xs) (s : DSt) : kLz3 s xs = some (.tmp xs, s) := (rfl)
def kZipRetb (o : Option SV) (xs : List D) (s : DSt) (g : DG) (t : DT) (e : DE) (vs : List Nat) : Option (Fl × DSt) := match o with
  | none => dRet (dLc (fun s => some (xs, s)) g t e vs) s
  | _ => none
def kZipRet (i : Nat) (g : DG) (t : DT) (e : DE) (vs : List Nat) (p : List D × DSt) : Option (Fl × DSt) := if i < p.2.length then kZipRetb (p.2.getD i none) p.1 p.2 g t e vs else none
@[simp] theorem dZipRet_ap (i fr g t e vs) (st : DSt) : dZipRet i fr g t e vs st = obind (dIterA iZipL fr st) (kZipRet i g t e vs) := by
  show (dIterA iZipL fr st).bind _ = (dIterA iZipL fr st).bind _
  congr 1
@[simp] theorem kZipRet_ap (i g t e vs xs) (s : DSt) : kZipRet i g t e vs (xs, s) = if i < s.length then kZipRetb (s.getD i none) xs s g t e vs else none := (rfl)
@[simp] theorem kZipRetb_none (xs) (s : DSt) (g t e vs) : kZipRetb none xs s g t e vs = dRet (dLc (fun s => some (xs, s)) g t e vs) s := (rfl)
/-! lists of data -/
@[simp] theorem opInD_ap (x y) : opInD x y = obind (inD x y) fun b => some (.d (.bool b)) := (rfl)
@[simp] theorem opNotInD_ap (x y) : opNotInD x y = obind (inD x y) fun b => some (.d (.bool (!b))) := (rfl)
@[simp] theorem isLst_l (xs) : isLst (.list xs) = true := (rfl)
def kMeth3 (op : D → D → Option Rv) (r : Rv) (q : Rv × DSt) : Option (Rv × DSt) := (look q.2 r).bind (kOp2c op (look q.2 q.1) q.2)
def kMeth2 (op : D → D → Option Rv) (g : DE) (r : Rv) (s : DSt) (x0 : D) : Option (Rv × DSt) := if isLst x0 = true then (g s).bind (kMeth3 op r) else none
def kMeth (op : D → D → Option Rv) (g : DE) (p : Rv × DSt) : Option (Rv × DSt) := (look p.2 p.1).bind (kMeth2 op g p.1 p.2)
@[simp] theorem dMethL_ap (op f g) (st : DSt) : dMethL op f g st = obind (f st) (kMeth op g) := (rfl)
@[simp] theorem kMeth_ap (op g r) (s : DSt) : kMeth op g (r, s) = obind (look s r) (kMeth2 op g r s) := (rfl)
@[simp] theorem kMeth2_ap (op g r s x0) : kMeth2 op g r s x0 = if isLst x0 = true then obind (g s) (kMeth3 op r) else none := (rfl)
@[simp] theorem kMeth3_ap (op r r2) (s : DSt) : kMeth3 op r (r2, s) = obind (look s r) (kOp2c op (look s r2) s) := (rfl)
def kPop6 (x : D) (s : DSt) : Option (Rv × DSt) := some (.d x, s)
def kPop5 (i : Nat) (xs : List D) (n : Nat) (s : DSt) (x : D) : Option (Rv × DSt) := (putL s i (xs.eraseIdx n)).bind (kPop6 x)
def kPop4 (i : Nat) (xs : List D) (s : DSt) (n : Nat) : Option (Rv × DSt) := (xs[n]?).bind (kPop5 i xs n s)
def kPop3 (i : Nat) (j : Int) (s : DSt) (xs : List D) : Option (Rv × DSt) := (ixAt xs j).bind (kPop4 i xs s)
def kPop2 (i : Nat) (o : Option D) (s : DSt) : Option (Rv × DSt) := match o with
  | some (.int j) => if -(2 ^ 63) ≤ j ∧ j < 2 ^ 63 then (getL s i).bind (kPop3 i j s) else none
  | _ => none
def kPop1 (i : Nat) (r : Rv × DSt) : Option (Rv × DSt) := kPop2 i (look r.2 r.1) r.2
def kPop (i : Nat) (k : DE) (st : DSt) (_ : List D) : Option (Rv × DSt) := (k st).bind (kPop1 i)
@[simp] theorem dPop_ap (i k) (st : DSt) : dPop i k st = obind (getL st i) (kPop i k st) := (rfl)
@[simp] theorem kPop_ap (i k) (st : DSt) (xs) : kPop i k st xs = obind (k st) (kPop1 i) := (rfl)
@[simp] theorem kPop1_ap (i r) (s : DSt) : kPop1 i (r, s) = kPop2 i (look s r) s := (rfl)
@[simp] theorem kPop2_ap (i) (j : Int) (s : DSt) : kPop2 i (some (.int j)) s = if -(2 ^ 63) ≤ j ∧ j < 2 ^ 63 then obind (getL s i) (kPop3 i j s) else none := (rfl)
@[simp] theorem kPop3_ap (i j s xs) : kPop3 i j s xs = obind (ixAt xs j) (kPop4 i xs s) := (rfl)
@[simp] theorem kPop4_ap (i xs s n) : kPop4 i xs s n = obind (xs[n]?) (kPop5 i xs n s) := (rfl)
@[simp] theorem kPop5_ap (i xs n s x) : kPop5 i xs n s x = obind (putL s i (xs.eraseIdx n)) (kPop6 x) := (rfl)
@[simp] theorem kPop6_ap (x s) : kPop6 x s = some (.d x, s) := (rfl)
def kRmD4 (i : Nat) (xs : List D) (s : DSt) (j : Nat) : Option (Fl × DSt) := (putL s i (xs.eraseIdx j)).bind kNx
def kRmD3 (i : Nat) (x : D) (s : DSt) (xs : List D) : Option (Fl × DSt) := if flat x = true ∧ flat (.list xs) = true then (xs.findIdx? fun y => PyData.eqv y x).bind (kRmD4 i xs s) else none
def kRmD2 (i : Nat) (q : D × DSt) : Option (Fl × DSt) := (getL q.2 i).bind (kRmD3 i q.1 q.2)
def kRmD1 (i : Nat) (p : Rv × DSt) : Option (Fl × DSt) := (toD p.2 p.1).bind (kRmD2 i)
def kRmD (i : Nat) (f : DE) (st : DSt) (_ : List D) : Option (Fl × DSt) := (f st).bind (kRmD1 i)
@[simp] theorem dRemoveD_ap (i f) (st : DSt) : dRemoveD i f st = obind (getL st i) (kRmD i f st) := (rfl)
@[simp] theorem kRmD_ap (i f) (st : DSt) (xs) : kRmD i f st xs = obind (f st) (kRmD1 i) := (rfl)
@[simp] theorem kRmD1_ap (i r) (s : DSt) : kRmD1 i (r, s) = obind (toD s r) (kRmD2 i) := (rfl)
@[simp] theorem kRmD2_ap (i x) (s : DSt) : kRmD2 i (x, s) = obind (getL s i) (kRmD3 i x s) := (rfl)
@[simp] theorem kRmD3_ap (i x s xs) : kRmD3 i x s xs = if flat x = true ∧ flat (.list xs) = true then obind (xs.findIdx? fun y => PyData.eqv y x) (kRmD4 i xs s) else none := (rfl)
@[simp] theorem kRmD4_ap (i xs s j) : kRmD4 i xs s j = obind (putL s i (xs.eraseIdx j)) kNx := (rfl)
/-- a slot that is not lent -/
def nd : Option SV → Bool
  | some (.lent _) => false
  | _ => true
@[simp] theorem nd_none : nd none = true := rfl
@[simp] theorem nd_d (x) : nd (some (.d x)) = true := rfl
@[simp] theorem nd_own (x) : nd (some (.own x)) = true := rfl
theorem kSetS_nd {o : Option SV} (h : nd o = true) (st : DSt) (i : Nat) (v : SV) : kSetS o st i v = if i < st.length then some (st.set i (some v)) else none := by
  rcases o with _ | o
  · rfl
  · cases o with
    | d x => rfl
    | own x => rfl
    | lent x => cases h
end
end DL
end

section
set_option linter.all false
/-! DLwp: runs by what holds behind them; loops and comprehensions by invariants. -/
namespace DL
open PySem
/-- it goes on, and Q holds of what comes -/
def okP {α : Type} (o : Option α) (Q : α → Prop) : Prop := ∃ a, o = some a ∧ Q a
section
variable {α β : Type} {o : Option α} {Q R : α → Prop} {a : α} {k : α → Option β} {S : β → Prop}
theorem okP_some : okP (some a) Q ↔ Q a := by
  constructor
  · rintro ⟨_, h, q⟩
    cases h
    exact q
  · exact fun h => ⟨a, rfl, h⟩
theorem okP_obind : okP (obind o k) S ↔ okP o fun a => okP (k a) S := by
  cases o with
  | none =>
    constructor
    · rintro ⟨_, h, _⟩
      cases h
    · rintro ⟨_, h, _⟩
      cases h
  | some a => rw [okP_some]; exact Iff.rfl
theorem okP.mono (h : okP o Q) (hq : ∀ a, Q a → R a) : okP o R := let ⟨a, e, q⟩ := h; ⟨a, e, hq a q⟩
theorem okP.and (h : okP o Q) (h2 : okP o R) : okP o fun a => Q a ∧ R a := by
  obtain ⟨a, e, q⟩ := h
  obtain ⟨b, e2, r⟩ := h2
  rw [e] at e2
  cases e2
  exact ⟨a, e, q, r⟩
theorem okP_of (e : o = some a) (q : Q a) : okP o Q := ⟨a, e, q⟩
theorem okP.eq (h : okP o fun b => b = a) : o = some a := by
  obtain ⟨b, e, rfl⟩ := h
  exact e
end
section
variable {g : DG} {t : DT} {e : DE} {b : DS} {vs : List Nat}
/-- for x in xs: .. -/
theorem forGo_wp (I : Nat → DSt → Prop) {Q : Fl × DSt → Prop} : ∀ (xs : List D) (n : Nat) (st : DSt), I n st →
    (∀ i x s, xs[i]? = some x → I (n + i) s → okP (g x s) fun s1 => okP (b s1) fun p => (p.1 = .nx ∨ p.1 = .ct) ∧ I (n + i + 1) p.2) → (∀ s, I (n + xs.length) s → Q (.nx, s)) → okP (forGo g b xs st) Q
  | [], n, st, h0, _, hk => by
    rw [forGo_nil, okP_some]
    exact hk st h0
  | x :: xs, n, st, h0, hs, hk => by
    rw [forGo_cons, okP_obind]
    refine (hs 0 x st rfl h0).mono fun s1 h1 => ?_
    show okP (obind (b s1) (kForb g b xs)) Q
    rw [okP_obind]
    refine h1.mono fun p ⟨h2, h3⟩ => ?_
    have := forGo_wp I (Q := Q) xs (n + 1) p.2 h3 (fun i y s hy hi => by
      have := hs (i + 1) y s (by simpa using hy) (by rw [show n + (i + 1) = n + 1 + i by omega]; exact hi)
      rw [show n + (i + 1) + 1 = n + 1 + i + 1 by omega] at this
      exact this) (fun s h => hk s (by rw [List.length_cons, show n + (xs.length + 1) = n + 1 + xs.length by omega]; exact h))
    rcases p with ⟨p1, p2⟩
    rcases h2 with rfl | rfl
    · exact this
    · exact this
theorem for_wp (I : Nat → DSt → Prop) {Q : Fl × DSt → Prop} {xs : List D} {st : DSt} (h0 : I 0 st)
    (hs : ∀ i x s, xs[i]? = some x → I i s → okP (g x s) fun s1 => okP (b s1) fun p => (p.1 = .nx ∨ p.1 = .ct) ∧ I (i + 1) p.2) (hk : ∀ s, I xs.length s → Q (.nx, s)) : okP (forGo g b xs st) Q :=
  forGo_wp I xs 0 st h0 (fun i x s hx hi => by
    rw [Nat.zero_add] at hi ⊢
    exact hs i x s hx hi) (fun s h => hk s (by rw [Nat.zero_add] at h; exact h))
/-- [e for x in xs]: each turn gives one -/
theorem lcGo_wp (I : Nat → DSt → Prop) (P : Nat → D → Prop) : ∀ (xs : List D) (n : Nat) (st : DSt) {Q : List D × DSt → Prop}, I n st →
    (∀ i x s, xs[i]? = some x → I (n + i) s → okP (g x s) fun s1 => okP (t s1) fun p => p.1 = true ∧ okP (e p.2) fun q => okP (toD q.2 q.1) fun r => P (n + i) r.1 ∧ I (n + i + 1) (wipeD r.2 vs)) →
    (∀ ys s, ys.length = xs.length → (∀ i y, ys[i]? = some y → P (n + i) y) → I (n + xs.length) s → Q (ys, s)) → okP (lcGo g t e vs xs st) Q
  | [], n, st, Q, h0, _, hk => by
    rw [lcGo_nil, okP_some]
    exact hk [] st rfl (fun i y h => by simp at h) h0
  | x :: xs, n, st, Q, h0, hs, hk => by
    rw [lcGo_cons, okP_obind]
    refine (hs 0 x st rfl h0).mono fun s1 h1 => ?_
    show okP (obind (t s1) (kLcTurnT g t e vs xs)) Q
    rw [okP_obind]
    refine h1.mono fun p ⟨h2, h3⟩ => ?_
    rcases p with ⟨p1, p2⟩
    subst h2
    show okP (obind (e p2) (kLcTurnD g t e vs xs)) Q
    rw [okP_obind]
    refine h3.mono fun q h4 => ?_
    rcases q with ⟨q1, q2⟩
    show okP (obind (toD q2 q1) (kLcTurnE g t e vs xs)) Q
    rw [okP_obind]
    refine h4.mono fun r ⟨h5, h6⟩ => ?_
    rcases r with ⟨r1, r2⟩
    show okP (obind (lcGo g t e vs xs (wipeD r2 vs)) (kPush r1)) Q
    rw [okP_obind]
    refine lcGo_wp I P xs (n + 1) (wipeD r2 vs) h6 (fun i y s hy hi => ?_) fun ys s l hp hi => ?_
    · have := hs (i + 1) y s (by simpa using hy) (by rw [show n + (i + 1) = n + 1 + i by omega]; exact hi)
      rw [show n + (i + 1) + 1 = n + 1 + i + 1 by omega, show n + (i + 1) = n + 1 + i by omega] at this
      exact this
    · show okP (some (r1 :: ys, s)) Q
      rw [okP_some]
      refine hk _ _ (by simp [l]) (fun i y hy => ?_) (by rw [List.length_cons, show n + (xs.length + 1) = n + 1 + xs.length by omega]; exact hi)
      cases i with
      | zero =>
        simp at hy
        subst hy
        exact h5
      | succ i =>
        rw [show n + (i + 1) = n + 1 + i by omega]
        exact hp i y (by simpa using hy)
theorem lc_wp (I : Nat → DSt → Prop) (P : Nat → D → Prop) {xs : List D} {st : DSt} {Q : List D × DSt → Prop} (h0 : I 0 st)
    (hs : ∀ i x s, xs[i]? = some x → I i s → okP (g x s) fun s1 => okP (t s1) fun p => p.1 = true ∧ okP (e p.2) fun q => okP (toD q.2 q.1) fun r => P i r.1 ∧ I (i + 1) (wipeD r.2 vs))
    (hk : ∀ ys s, ys.length = xs.length → (∀ i y, ys[i]? = some y → P i y) → I xs.length s → Q (ys, s)) : okP (lcGo g t e vs xs st) Q :=
  lcGo_wp I P xs 0 st h0 (fun i x s hx hi => by
    rw [Nat.zero_add] at hi ⊢
    exact hs i x s hx hi) (fun ys s l hp h => hk ys s l (fun i y hy => by
      have := hp i y hy
      rw [Nat.zero_add] at this
      exact this) (by rw [Nat.zero_add] at h; exact h))
/-- [e for x in xs if t]: nothing but the block's own slots is touched -/
theorem lc_map (f : D → Option D) : ∀ {xs : List D} {st : DSt}, (∀ x ∈ xs, okP (g x st) fun s1 => okP (t s1) fun p => (p.1 = false ∧ f x = none ∧ wipeD p.2 vs = st) ∨ (p.1 = true ∧ okP (e p.2) fun q => okP (toD q.2 q.1) fun r => f x = some r.1 ∧ wipeD r.2 vs = st)) →
    lcGo g t e vs xs st = some (xs.filterMap f, st)
  | [], st, _ => by rw [lcGo_nil, List.filterMap_nil]
  | x :: xs, st, h => by
    have ih := lc_map f (xs := xs) (st := st) fun y hy => h y (List.mem_cons_of_mem _ hy)
    obtain ⟨s1, e1, ⟨p1, p2⟩, e2, h2⟩ := h x List.mem_cons_self
    rw [lcGo_cons, e1, List.filterMap_cons]
    show obind (t s1) (kLcTurnT g t e vs xs) = _
    rw [e2]
    rcases h2 with ⟨h3, h4, h5⟩ | ⟨h3, ⟨q1, q2⟩, e3, ⟨r1, r2⟩, e4, h4, h5⟩
    · subst h3
      have h5 : wipeD p2 vs = st := h5
      show lcGo g t e vs xs (wipeD p2 vs) = _
      rw [h5, ih, h4]
    · subst h3
      show obind (e p2) (kLcTurnD g t e vs xs) = _
      have e3 : e p2 = some (q1, q2) := e3
      rw [e3]
      show obind (toD q2 q1) (kLcTurnE g t e vs xs) = _
      have e4 : toD q2 q1 = some (r1, r2) := e4
      rw [e4]
      show obind (lcGo g t e vs xs (wipeD r2 vs)) (kPush r1) = _
      have h5 : wipeD r2 vs = st := h5
      rw [h5, ih, h4]
      rfl
end
/-- range(n) of a small n -/
theorem range_ok {t : Nat} (ht : t < 1000000) : iRange1 [.int (t : Nat)] = some ((List.range t).map fun i => .int (i : Nat)) := by
  have ht' : (t : Int) < 4611686018427387904 := by omega
  have ht2 : (-4611686018427387904 : Int) ≤ t := by omega
  simp [ht', ht2]
theorem opNe_same (z : Str) : opNe (.str z) (.str z) = some (.d (.bool false)) := by simp [opNe, flat, PyData.plain, PyData.depth, PyData.eqv]
end DL
end

section
set_option linter.all false
/-! DLtame: data that is not great: what repr asks; depth and bulk of data that is put together. -/
namespace DL
open PySem
abbrev N (n : Nat) : D := .int (n : Int)
def Sm (k a : Nat) : Prop := a < 2 ^ k
theorem sm_of {a : Nat} (k : Nat) (h : a < 2 ^ k) : Sm k a := h
theorem Sm.mono {j k a : Nat} (h : Sm j a) (hjk : j ≤ k) : Sm k a := Nat.lt_of_lt_of_le h (Nat.pow_le_pow_right (by decide) hjk)
theorem Sm.le {k a b : Nat} (h : Sm k b) (hab : a ≤ b) : Sm k a := Nat.lt_of_le_of_lt hab h
theorem Sm.mul {j k a b : Nat} (h : Sm j a) (h' : Sm k b) : Sm (j + k) (a * b) := by
  unfold Sm at *
  rw [Nat.pow_add]
  exact Nat.mul_lt_mul_of_lt_of_le h (Nat.le_of_lt h') (Nat.two_pow_pos k)
theorem Sm.add {k a b : Nat} (h : Sm k a) (h' : Sm k b) : Sm (k + 1) (a + b) := by
  unfold Sm at *
  rw [Nat.pow_succ]
  omega
theorem Sm.log {k a : Nat} (h : Sm k a) : a.log2 ≤ k := by
  by_cases h0 : a = 0
  · subst h0; simp
  · exact Nat.le_of_lt ((Nat.log2_lt h0).2 h)
mutual
def tame : D → Bool
  | .none => true
  | .bool _ => true
  | .int i => decide (i.natAbs ≤ 10000000000000000000000000000000000000000)
  | .str z => z.cps.toList.all fun c => decide (c < 16 ^ 8)
  | .list xs => tameAll xs
  | .tuple xs => tameAll xs
  | .dict _ => false
def tameAll : List D → Bool
  | [] => true
  | x :: r => tame x && tameAll r
end
theorem short_int {i : Int} (h : i.natAbs ≤ 10000000000000000000000000000000000000000) : i.natAbs.log2 < 190 ∧ (PyData.shown (.int i)).length ≤ 200 := by
  have h1 : i.natAbs.log2 ≤ 140 := (sm_of 140 (Nat.lt_of_le_of_lt h (by decide))).log
  have h2 : i.natAbs.log2 < 190 := by omega
  refine ⟨h2, ?_⟩
  show (Str.ofString (toString i)).length ≤ 200
  have e := int_text_length_le (a := i) (k := 190) (by decide) h2
  rw [ofString_length]
  omega
mutual
theorem tame_ok : ∀ x : D, tame x = true → x.hasDict = false ∧ x.showable = true ∧ x.leavesShort 200 = true
  | .none, _ => by simp [PyData.hasDict, PyData.showable, PyData.leavesShort]
  | .bool _, _ => by simp [PyData.hasDict, PyData.showable, PyData.leavesShort]
  | .int i, h => by
    obtain ⟨h1, h2⟩ := short_int (i := i) (by simpa [tame] using h)
    have h3 : i.natAbs.log2 < 1920 := by omega
    simp [PyData.hasDict, PyData.showable, PyData.leavesShort, h2, h3]
  | .str z, h => by
    simp only [tame] at h
    simp only [PyData.hasDict, PyData.showable, PyData.leavesShort]
    exact ⟨trivial, trivial, h⟩
  | .list xs, h => by
    obtain ⟨a, b, c⟩ := tame_okAll xs (by simpa [tame] using h)
    simp [PyData.hasDict, PyData.showable, PyData.leavesShort, a, b, c]
  | .tuple xs, h => by
    obtain ⟨a, b, c⟩ := tame_okAll xs (by simpa [tame] using h)
    simp [PyData.hasDict, PyData.showable, PyData.leavesShort, a, b, c]
  | .dict k, h => by simp [tame] at h
theorem tame_okAll : ∀ xs : List D, tameAll xs = true → PyData.hasDictAll xs = false ∧ PyData.showableAll xs = true ∧ PyData.leavesShortAll 200 xs = true
  | [], _ => by simp [PyData.hasDictAll, PyData.showableAll, PyData.leavesShortAll]
  | x :: r, h => by
    simp only [tameAll, Bool.and_eq_true] at h
    obtain ⟨a, b, c⟩ := tame_ok x h.1
    obtain ⟨d, e, f⟩ := tame_okAll r h.2
    simp [PyData.hasDictAll, PyData.showableAll, PyData.leavesShortAll, a, b, c, d, e, f]
end
theorem bulk_len : ∀ xs : List D, xs.length ≤ PyData.bulkAll xs
  | [] => Nat.zero_le _
  | x :: r => by
    have := bulk_len r
    simp only [PyData.bulkAll, List.length_cons]
    omega
theorem mem_of : ∀ (xs : List D) (y : D), y ∈ xs → tameAll xs = true → tame y = true ∧ y.depth ≤ PyData.depthAll xs ∧ y.bulk ≤ PyData.bulkAll xs
  | x :: r, y, hy, h => by
    simp only [tameAll, Bool.and_eq_true] at h
    simp only [PyData.depthAll, PyData.bulkAll]
    rcases List.mem_cons.mp hy with rfl | hy
    · exact ⟨h.1, by omega, by omega⟩
    · obtain ⟨a, b, c⟩ := mem_of r y hy h.2
      exact ⟨a, by omega, by omega⟩
theorem repr_of (x : D) (h : tame x = true) (hd : x.depth ≤ 40) (hb : x.bulk ≤ 1000) : bRepr [x] = some (.d (.str x.shown)) := by
  obtain ⟨a, b, c⟩ := tame_ok x h
  have e := PyData.shown_le_bulk 200 (by decide) x c
  show (if _ then _ else _) = _
  rw [if_pos]
  refine ⟨a, b, hd, ?_⟩
  rw [DL.sizeLine_eq]
  have : (200 + 2) * x.bulk ≤ 202 * 1000 := Nat.mul_le_mul (by decide) hb
  omega
structure Vv (n k : Nat) (y : D) : Prop where
  t : tame y = true
  d : y.depth ≤ n
  b : y.bulk ≤ k
theorem Vv.mono {n k n' k' : Nat} {y : D} (h : Vv n k y) (hn : n ≤ n') (hk : k ≤ k') : Vv n' k' y := ⟨h.t, Nat.le_trans h.d hn, Nat.le_trans h.b hk⟩
theorem vv_all {n k : Nat} : ∀ xs : List D, (∀ y ∈ xs, Vv n k y) → tameAll xs = true ∧ PyData.depthAll xs ≤ n ∧ PyData.bulkAll xs ≤ xs.length * (k + 1)
  | [], _ => by simp [tameAll, PyData.depthAll, PyData.bulkAll]
  | x :: r, h => by
    obtain ⟨a, b, c⟩ := vv_all r fun y hy => h y (by simp [hy])
    have hx := h x (by simp)
    refine ⟨by simp [tameAll, a, hx.t], ?_, ?_⟩
    · have := hx.d
      simp only [PyData.depthAll]
      omega
    · have := hx.b
      simp only [PyData.bulkAll, List.length_cons, Nat.add_mul, Nat.one_mul]
      omega
theorem vv_list {n k w : Nat} {xs : List D} (h : ∀ y ∈ xs, Vv n k y) (hw : xs.length ≤ w) : Vv (n + 1) (w * (k + 1)) (.list xs) := by
  obtain ⟨a, b, c⟩ := vv_all xs h
  exact ⟨by simpa [tame] using a, by simp [PyData.depth]; omega, Nat.le_trans (by simpa [PyData.bulk] using c) (Nat.mul_le_mul_right _ hw)⟩
theorem vv_tuple {n k w : Nat} {xs : List D} (h : ∀ y ∈ xs, Vv n k y) (hw : xs.length ≤ w) : Vv (n + 1) (w * (k + 1)) (.tuple xs) := by
  obtain ⟨a, b, c⟩ := vv_all xs h
  exact ⟨by simpa [tame] using a, by simp [PyData.depth]; omega, Nat.le_trans (by simpa [PyData.bulk] using c) (Nat.mul_le_mul_right _ hw)⟩
theorem vv_none : Vv 0 0 .none := ⟨rfl, by simp [PyData.depth], by simp [PyData.bulk]⟩
theorem vv_bool (b) : Vv 0 0 (.bool b) := ⟨rfl, by simp [PyData.depth], by simp [PyData.bulk]⟩
theorem vv_int {i : Int} (h : i.natAbs ≤ 1000) : Vv 0 0 (.int i) := ⟨by simp [tame]; omega, by simp [PyData.depth], by simp [PyData.bulk]⟩
theorem mem_cut {xs : List D} {lo hi : Option Int} {y : D} (h : y ∈ cutD xs lo hi) : y ∈ xs := List.mem_of_mem_drop (List.mem_of_mem_take h)
theorem len_cut (xs : List D) (lo hi : Option Int) : (cutD xs lo hi).length ≤ xs.length := by
  unfold cutD
  rw [List.length_take, List.length_drop]
  omega
/-- small things, one or none deep -/
def At (y : D) : Prop := Vv 0 1 y
theorem at_list {xs : List D} (h : ∀ y ∈ xs, At y) (hl : xs.length ≤ 20) : Vv 1 40 (.list xs) := vv_list (n := 0) (k := 1) (w := 20) h hl
theorem at_tuple {xs : List D} (h : ∀ y ∈ xs, At y) (hl : xs.length ≤ 20) : Vv 1 40 (.tuple xs) := vv_tuple (n := 0) (k := 1) (w := 20) h hl
theorem at_N {k : Nat} (h : k ≤ 1000) : At (N k) := (vv_int (by omega)).mono (by decide) (by decide)
theorem at_int {i : Int} (h : i.natAbs ≤ 1000) : At (.int i) := (vv_int h).mono (by decide) (by decide)
theorem at_none : At .none := vv_none.mono (by decide) (by decide)
theorem at_bool (b) : At (.bool b) := (vv_bool b).mono (by decide) (by decide)
theorem at_one : At (.str (Str.ofString "1")) := ⟨by decide +kernel, by simp [PyData.depth], by show (Str.ofString "1").cps.size ≤ 1; decide +kernel⟩
theorem at_nought : At (.str (Str.ofString "0")) := ⟨by decide +kernel, by simp [PyData.depth], by show (Str.ofString "0").cps.size ≤ 1; decide +kernel⟩
theorem tame_app : ∀ xs ys : List D, tameAll (xs ++ ys) = (tameAll xs && tameAll ys)
  | [], ys => by simp [tameAll]
  | x :: r, ys => by simp [tameAll, tame_app r ys, Bool.and_assoc]
theorem depth_app : ∀ xs ys : List D, PyData.depthAll (xs ++ ys) = max (PyData.depthAll xs) (PyData.depthAll ys)
  | [], ys => by simp [PyData.depthAll]
  | x :: r, ys => by simp [PyData.depthAll, depth_app r ys, Nat.max_assoc]
theorem bulk_app : ∀ xs ys : List D, PyData.bulkAll (xs ++ ys) = PyData.bulkAll xs + PyData.bulkAll ys
  | [], ys => by simp [PyData.bulkAll]
  | x :: r, ys => by simp [PyData.bulkAll, bulk_app r ys]; omega
structure VL (n k : Nat) (xs : List D) : Prop where
  t : tameAll xs = true
  d : PyData.depthAll xs ≤ n
  b : PyData.bulkAll xs ≤ k
theorem VL.mono {n k n' k' : Nat} {y : List D} (h : VL n k y) (hn : n ≤ n') (hk : k ≤ k') : VL n' k' y := ⟨h.t, Nat.le_trans h.d hn, Nat.le_trans h.b hk⟩
theorem vl_take {n k : Nat} {xs : List D} (i : Nat) (h : VL n k xs) : VL n k (xs.take i) := by
  have e := List.take_append_drop i xs
  obtain ⟨a, b, c⟩ := h
  rw [← e, tame_app, Bool.and_eq_true] at a
  rw [← e, depth_app] at b
  rw [← e, bulk_app] at c
  exact ⟨a.1, by omega, by omega⟩
theorem vl_drop {n k : Nat} {xs : List D} (i : Nat) (h : VL n k xs) : VL n k (xs.drop i) := by
  have e := List.take_append_drop i xs
  obtain ⟨a, b, c⟩ := h
  rw [← e, tame_app, Bool.and_eq_true] at a
  rw [← e, depth_app] at b
  rw [← e, bulk_app] at c
  exact ⟨a.2, by omega, by omega⟩
theorem vl_cut {n k : Nat} {xs : List D} (lo hi : Option Int) (h : VL n k xs) : VL n k (cutD xs lo hi) := vl_take _ (vl_drop _ h)
theorem vl_of {n k w : Nat} {xs : List D} (h : ∀ y ∈ xs, Vv n k y) (hl : xs.length ≤ w) : VL n (w * (k + 1)) xs := by
  obtain ⟨a, b, c⟩ := vv_all xs h
  exact ⟨a, b, Nat.le_trans c (Nat.mul_le_mul_right _ hl)⟩
theorem vv_mk {n k : Nat} {x : D} (t : tame x = true) (d : x.depth ≤ n) (b : x.bulk ≤ k) : Vv n k x := ⟨t, d, b⟩
theorem tame_tup (xs : List D) : tame (.tuple xs) = tameAll xs := by rw [tame]
theorem tame_lst (xs : List D) : tame (.list xs) = tameAll xs := by rw [tame]
theorem tame_non : tame .none = true := by rw [tame]
theorem tame_bl (b) : tame (.bool b) = true := by rw [tame]
theorem tame_i {i : Int} (h : i.natAbs ≤ 1000) : tame (.int i) = true := (vv_int h).t
theorem tame_nil : tameAll [] = true := by rw [tameAll]
theorem tame_cons (x : D) (r : List D) : tameAll (x :: r) = (tame x && tameAll r) := by rw [tameAll]
theorem tame_N {k : Nat} (h : k ≤ 1000) : tame (.int (k : Nat)) = true := (vv_int (by omega)).t
theorem drop1 (t : List D) : cutD t (some 1) none = t.drop 1 := by
  cases t with
  | nil => rfl
  | cons x r =>
    have e : cutAt (x :: r).length 0 (some 1) = 1 := by
      show (if (1 : Int) < 0 then ((1 : Int) + ((x :: r).length : Int)).toNat else min (1 : Int).toNat (x :: r).length) = 1
      rw [if_neg (by decide), List.length_cons]
      show min 1 (r.length + 1) = 1
      omega
    show ((x :: r).drop (cutAt (x :: r).length 0 (some 1))).take ((x :: r).length - cutAt (x :: r).length 0 (some 1)) = _
    rw [e]
    simp
end DL
end

section
set_option linter.all false
namespace P
open PySem DL
noncomputable def g_is_count : DS := dRet (dAndV (dOp1 (bIsi "int") (dVar 0)) (dAndV (dNotV (dOp1 (bIsi "bool") (dVar 0))) (dOp2 opGe (dVar 0) (dVar 1))))
noncomputable def m_is_count : Fn := run 2 g_is_count
noncomputable def g_divisor : DS := dSeq (dWhile (dTest (dOp2 opNe (dVar 1) (dC (.int 0)))) (dPar [0, 1] (dCons (dVar 1) (dCons (dOp2 opMod (dVar 0) (dVar 1)) (dNil))))) (dRet (dVar 0))
noncomputable def m_divisor : Fn := run 2 g_divisor
noncomputable def g_by_lowest : DS := dSeq (dSet 2 (dCall m_divisor [false, false] [] (dCons (dVar 0) (dCons (dVar 1) (dNil))))) (dRet (dTup (dCons (dOp2 opDiv (dVar 0) (dVar 2)) (dCons (dOp2 opDiv (dVar 1) (dVar 2)) (dNil)))))
noncomputable def m_by_lowest : Fn := run 3 g_by_lowest
noncomputable def g_put_together : DS := dRet (dCall m_by_lowest [false, false] [] (dCons (dOp2 opAdd (dOp2 opMul (dOp2 opIx (dVar 0) (dC (.int 0))) (dOp2 opIx (dVar 1) (dC (.int 1)))) (dOp2 opMul (dOp2 opIx (dVar 1) (dC (.int 0))) (dOp2 opIx (dVar 0) (dC (.int 1))))) (dCons (dOp2 opMul (dOp2 opIx (dVar 0) (dC (.int 1))) (dOp2 opIx (dVar 1) (dC (.int 1)))) (dNil))))
noncomputable def m_put_together : Fn := run 2 g_put_together
noncomputable def g_is_below : DS := dRet (dOp2 opLt (dOp2 opMul (dOp2 opIx (dVar 0) (dC (.int 0))) (dOp2 opIx (dVar 1) (dC (.int 1)))) (dOp2 opMul (dOp2 opIx (dVar 1) (dC (.int 0))) (dOp2 opIx (dVar 0) (dC (.int 1)))))
noncomputable def m_is_below : Fn := run 2 g_is_below
noncomputable def g_times : DS := dRet (dCall m_by_lowest [false, false] [] (dCons (dOp2 opMul (dOp2 opIx (dVar 0) (dC (.int 0))) (dOp2 opIx (dVar 1) (dC (.int 0)))) (dCons (dOp2 opMul (dOp2 opIx (dVar 0) (dC (.int 1))) (dOp2 opIx (dVar 1) (dC (.int 1)))) (dNil))))
noncomputable def m_times : Fn := run 2 g_times
noncomputable def g_total : DS := dSeq (dSet 1 (dTup (dCons (dC (.int 0)) (dCons (dC (.int 1)) (dNil))))) (dSeq (dFor (dIter DL.iSeq (dVar 0)) (DL.gName 2) (dSet 1 (dCall m_put_together [false, false] [] (dCons (dVar 1) (dCons (dVar 2) (dNil)))))) (dRet (dVar 1)))
noncomputable def m_total : Fn := run 3 g_total
noncomputable def g_taken_off : DS := dRet (dCall m_by_lowest [false, false] [] (dCons (dOp2 opSub (dOp2 opMul (dOp2 opIx (dVar 0) (dC (.int 0))) (dOp2 opIx (dVar 1) (dC (.int 1)))) (dOp2 opMul (dOp2 opIx (dVar 1) (dC (.int 0))) (dOp2 opIx (dVar 0) (dC (.int 1))))) (dCons (dOp2 opMul (dOp2 opIx (dVar 0) (dC (.int 1))) (dOp2 opIx (dVar 1) (dC (.int 1)))) (dNil))))
noncomputable def m_taken_off : Fn := run 2 g_taken_off
noncomputable def g_are_counts : DS := dRet (dAndV (dOp1 (bIsi "list") (dVar 0)) (dCallB bAll (dCons (dLc (dIter DL.iSeq (dVar 0)) (DL.gName 1) (dTests) (dCall m_is_count [false] [PyData.int 0] (dCons (dVar 1) (dNil))) [1]) (dNil))))
noncomputable def m_are_counts : Fn := run 2 g_are_counts
noncomputable def g_is_table : DS := dRet (dAndV (dCall m_are_counts [false] [] (dCons (dVar 0) (dNil))) (dOp2 opGt (dCallB bSum (dCons (dVar 0) (dNil))) (dC (.int 0))))
noncomputable def m_is_table : Fn := run 1 g_is_table
noncomputable def g_look_at_table : DS := dIfS (dNot (dTest (dCall m_is_table [false] [] (dCons (dVar 0) (dNil))))) (dNever) (dNext)
noncomputable def m_look_at_table : Fn := run 1 g_look_at_table
noncomputable def g_look_at_two : DS := dSeq (dDrop (dCall m_look_at_table [false] [] (dCons (dVar 0) (dNil)))) (dIfS (dOr (dNot (dTest (dCall m_is_table [false] [] (dCons (dVar 1) (dNil))))) (dTest (dOp2 opNe (dCallB bLen (dCons (dVar 1) (dNil))) (dCallB bLen (dCons (dVar 0) (dNil)))))) (dNever) (dNext))
noncomputable def m_look_at_two : Fn := run 2 g_look_at_two
noncomputable def g_odds_in : DS := dRet (dLc (dIter DL.iSeq (dVar 0)) (DL.gName 1) (dTests) (dCall m_by_lowest [false, false] [] (dCons (dVar 1) (dCons (dCallB bSum (dCons (dVar 0) (dNil))) (dNil)))) [1])
noncomputable def m_odds_in : Fn := run 2 g_odds_in
noncomputable def g_lowered : DS := dSeq (dSet 1 (dC (.int 0))) (dSeq (dFor (dIter DL.iSeq (dVar 0)) (DL.gName 2) (dSet 1 (dCall m_divisor [false, false] [] (dCons (dVar 1) (dCons (dVar 2) (dNil)))))) (dRet (dLc (dIter DL.iSeq (dVar 0)) (DL.gName 2) (dTests) (dOp2 opDiv (dVar 2) (dVar 1)) [2])))
noncomputable def m_lowered : Fn := run 3 g_lowered
noncomputable def g_lowest : DS := dSeq (dDrop (dCall m_look_at_table [false] [] (dCons (dVar 0) (dNil)))) (dRet (dCall m_lowered [false] [] (dCons (dVar 0) (dNil))))
noncomputable def m_lowest : Fn := run 1 g_lowest
noncomputable def g_like : DS := dSeq (dDrop (dCall m_look_at_table [false] [] (dCons (dVar 0) (dNil)))) (dSeq (dDrop (dCall m_look_at_table [false] [] (dCons (dVar 1) (dNil)))) (dRet (dOp2 opEq (dCall m_lowered [false] [] (dCons (dVar 0) (dNil))) (dCall m_lowered [false] [] (dCons (dVar 1) (dNil))))))
noncomputable def m_like : Fn := run 2 g_like
noncomputable def g__law_divisor : DS := dSeq (dWhile (dTest (dOp2 opNe (dVar 1) (dC (.int 0)))) (dPar [0, 1] (dCons (dVar 1) (dCons (dOp2 opMod (dVar 0) (dVar 1)) (dNil))))) (dRet (dVar 0))
noncomputable def m__law_divisor : Fn := run 2 g__law_divisor
noncomputable def g__law_draw : DS := dSeq (dIfS (dAnd (dTest (dOp2 opLt (dOp2 opIx (dVar 0) (dC (.int 2))) (dVar 1))) (dTest (dOp2 opLt (dOp2 opIx (dVar 0) (dC (.int 1))) (dCallB bLen (dCons (dOp2 opIx (dVar 0) (dC (.int 0))) (dNil)))))) (dSeq (dSetIx 0 (dC (.int 2)) (dOp2 opIx (dOp2 opIx (dVar 0) (dC (.int 0))) (dOp2 opIx (dVar 0) (dC (.int 1))))) (dAugIx opAddI 0 (dC (.int 1)) (dC (.int 1)))) (dNext)) (dSeq (dIfS (dTest (dOp2 opGe (dOp2 opIx (dVar 0) (dC (.int 2))) (dVar 1))) (dSeq (dSet 2 (dOp2 opMod (dCallB bInt (dCons (dOp2 opIx (dVar 0) (dC (.int 2))) (dNil))) (dVar 1))) (dSeq (dSetIx 0 (dC (.int 2)) (dOp2 opDiv (dOp2 opIx (dVar 0) (dC (.int 2))) (dVar 1))) (dRet (dVar 2)))) (dNext)) (dSeq (dAugIx opAddI 0 (dC (.int 3)) (dC (.int 1))) (dSeq (dSet 3 (dOp2 opMod (dCallB bInt (dCons (dOp2 opMul (dOp2 opAdd (dOp2 opMul (dOp2 opIx (dVar 0) (dC (.int 3))) (dOp2 opIx (dVar 0) (dC (.int 3)))) (dOp2 opIx (dVar 0) (dC (.int 4)))) (dC (.int 48271))) (dNil))) (dC (.int 2147483629)))) (dRet (dOp2 opMod (dCallB bInt (dCons (dOp2 opMod (dCallB bInt (dCons (dOp2 opMul (dVar 3) (dVar 3)) (dNil))) (dC (.int 2147483587))) (dNil))) (dVar 1))))))
noncomputable def m__law_draw : Fn := run 4 g__law_draw
noncomputable def g__law_by : DS := dSeq (dSet 2 (dCall m__law_divisor [false, false] [] (dCons (dVar 0) (dCons (dVar 1) (dNil))))) (dRet (dTup (dCons (dOp2 opDiv (dVar 0) (dVar 2)) (dCons (dOp2 opDiv (dVar 1) (dVar 2)) (dNil)))))
noncomputable def m__law_by : Fn := run 3 g__law_by
noncomputable def g__law_odds_in : DS := dRet (dLc (dIter DL.iSeq (dVar 0)) (DL.gName 1) (dTests) (dCall m__law_by [false, false] [] (dCons (dVar 1) (dCons (dCallB bSum (dCons (dVar 0) (dNil))) (dNil)))) [1])
noncomputable def m__law_odds_in : Fn := run 2 g__law_odds_in
noncomputable def g__law_same (self : Fn) : DS := dSeq (dIfS (dTest (dOp2 opIs (dVar 1) (dC .none))) (dRet (dOp2 opIs (dVar 0) (dC .none))) (dNext)) (dSeq (dIfS (dTest (dOp2 opIs (dVar 1) (dC (.bool true)))) (dRet (dOp2 opIs (dVar 0) (dC (.bool true)))) (dNext)) (dSeq (dIfS (dTest (dOp2 opIs (dVar 1) (dC (.bool false)))) (dRet (dOp2 opIs (dVar 0) (dC (.bool false)))) (dNext)) (dSeq (dIfS (dTest (dOp1 (bIsi2 "list" "tuple") (dVar 1))) (dSeq (dSet 2 (dIf (dTest (dOp1 (bIsi "list") (dVar 1))) (dOp1 (bIsi "list") (dVar 0)) (dOp1 (bIsi "tuple") (dVar 0)))) (dRet (dAndV (dVar 2) (dAndV (dOp2 opEq (dCallB bLen (dCons (dVar 0) (dNil))) (dCallB bLen (dCons (dVar 1) (dNil)))) (dCallB bAll (dCons (dLc (dIterA DL.iZip (dCons (dVar 0) (dCons (dVar 1) (dNil)))) (DL.gTup 2 (DL.gCons (DL.gName 3) (DL.gCons (DL.gName 4) (DL.gNil)))) (dTests) (dCall self [false, false] [] (dCons (dVar 3) (dCons (dVar 4) (dNil)))) [3, 4]) (dNil))))))) (dNext)) (dSeq (dIfS (dTest (dOp1 (bIsi "int") (dVar 1))) (dRet (dAndV (dOp1 (bIsi "int") (dVar 0)) (dAndV (dNotV (dOp1 (bIsi "bool") (dVar 0))) (dOp2 opEq (dVar 0) (dVar 1))))) (dNext)) (dRet (dAndV (dOp1 (bIsi "str") (dVar 0)) (dOp2 opEq (dVar 0) (dVar 1))))))))
noncomputable def m__law_same : Nat → Fn
  | 0 => fun _ => none
  | n + 1 => run 5 (g__law_same (m__law_same n))
noncomputable def g__law_plus : DS := dRet (dCall m__law_by [false, false] [] (dCons (dOp2 opAdd (dOp2 opMul (dOp2 opIx (dVar 0) (dC (.int 0))) (dOp2 opIx (dVar 1) (dC (.int 1)))) (dOp2 opMul (dOp2 opIx (dVar 1) (dC (.int 0))) (dOp2 opIx (dVar 0) (dC (.int 1))))) (dCons (dOp2 opMul (dOp2 opIx (dVar 0) (dC (.int 1))) (dOp2 opIx (dVar 1) (dC (.int 1)))) (dNil))))
noncomputable def m__law_plus : Fn := run 2 g__law_plus
noncomputable def g__law_sum : DS := dSeq (dSet 1 (dTup (dCons (dC (.int 0)) (dCons (dC (.int 1)) (dNil))))) (dSeq (dFor (dIter DL.iSeq (dVar 0)) (DL.gName 2) (dSet 1 (dCall m__law_plus [false, false] [] (dCons (dVar 1) (dCons (dVar 2) (dNil)))))) (dRet (dVar 1)))
noncomputable def m__law_sum : Fn := run 3 g__law_sum
noncomputable def g__law_less : DS := dRet (dOp2 opLt (dOp2 opMul (dOp2 opIx (dVar 0) (dC (.int 0))) (dOp2 opIx (dVar 1) (dC (.int 1)))) (dOp2 opMul (dOp2 opIx (dVar 1) (dC (.int 0))) (dOp2 opIx (dVar 0) (dC (.int 1)))))
noncomputable def m__law_less : Fn := run 2 g__law_less
noncomputable def g__law_pick : DS := dRet (dOp2 opIx (dVar 1) (dCall m__law_draw [true, false] [] (dCons (dVar 0) (dCons (dCallB bLen (dCons (dVar 1) (dNil))) (dNil)))))
noncomputable def m__law_pick : Fn := run 2 g__law_pick
noncomputable def g__law_times : DS := dRet (dCall m__law_by [false, false] [] (dCons (dOp2 opMul (dOp2 opIx (dVar 0) (dC (.int 0))) (dOp2 opIx (dVar 1) (dC (.int 0)))) (dCons (dOp2 opMul (dOp2 opIx (dVar 0) (dC (.int 1))) (dOp2 opIx (dVar 1) (dC (.int 1)))) (dNil))))
noncomputable def m__law_times : Fn := run 2 g__law_times
noncomputable def g__law_purse : DS := dSeq (dSet 1 (dC (.int 7))) (dSeq (dFor (dIter DL.iSeq (dSlice opSlice (dVar 0) (dNoPart) (dPart (dC (.int 63))))) (DL.gName 2) (dSet 1 (dOp2 opMod (dCallB bInt (dCons (dOp2 opAdd (dOp2 opMul (dVar 1) (dC (.int 31))) (dVar 2)) (dNil))) (dC (.int 2147483647))))) (dRet (dList (dCons (dLc (dIter DL.iSeq (dSlice opSlice (dVar 0) (dNoPart) (dPart (dC (.int 63))))) (DL.gName 2) (dTest (dOp2 opGe (dVar 2) (dOp2 opPow (dC (.int 10)) (dC (.int 18))))) (dVar 2) [2]) (dCons (dC (.int 0)) (dCons (dC (.int 0)) (dCons (dC (.int 0)) (dCons (dVar 1) (dNil)))))))))
noncomputable def m__law_purse : Fn := run 3 g__law_purse
end P
end

section
set_option linter.all false
namespace P
open PySem DL
/-! ## whole numbers -/
theorem divisor_while : ∀ (b a : Nat), ∃ n, whileN (dTest (dOp2 opNe (dVar 1) (dC (.int 0)))) (dPar [0, 1] (dCons (dVar 1) (dCons (dOp2 opMod (dVar 0) (dVar 1)) (dNil)))) n [some (.d (N a)), some (.d (N b))] = some (.nx, [some (.d (N (Nat.gcd a b))), some (.d (N 0))]) := by
  intro b
  induction b using Nat.strongRecOn with
  | ind b ih =>
    intro a
    cases b with
    | zero =>
      refine ⟨1, ?_⟩
      rw [whileN_end (by simp)]
      simp
    | succ b =>
      obtain ⟨n, hn⟩ := ih (a % (b + 1)) (Nat.mod_lt _ (Nat.succ_pos b)) (b + 1)
      refine ⟨n + 1, ?_⟩
      rw [whileN_more (st' := [some (.d (N (b + 1))), some (.d (N (a % (b + 1))))]) (by simp; omega) (by
        have h : (0 : Int) < (b : Int) + 1 := by omega
        simp [h]) hn]
      rw [Nat.gcd_comm a (b + 1), Nat.gcd_rec (b + 1) a, Nat.gcd_comm]
theorem divisor_ok (a b : Nat) : m_divisor [.d (N a), .d (N b)] = some (.d (N (Nat.gcd a b)), []) := by
  obtain ⟨n, hn⟩ := divisor_while b a
  have h := dWhile_of hn
  simp [m_divisor, g_divisor, run_ap, startD, h]
theorem same_divisor : m__law_divisor = m_divisor := rfl
theorem same_by : m__law_by = m_by_lowest := rfl
theorem same_plus : m__law_plus = m_put_together := rfl
theorem same_times : m__law_times = m_times := rfl
theorem same_less : m__law_less = m_is_below := rfl
theorem same_odds_in : m__law_odds_in = m_odds_in := rfl
theorem same_sum : m__law_sum = m_total := rfl
/-! ## fractions -/
def Q (r : Rat) : D := .tuple [.int r.num, .int (r.den : Nat)]
theorem mk_num (a b : Nat) (hb : 0 < b) : (mkRat (a : Int) b).num = ((a / Nat.gcd a b : Nat) : Int) ∧ (mkRat (a : Int) b).den = b / Nat.gcd a b := by
  have h : mkRat (a : Int) b = Rat.normalize a b (by omega) := by rw [Rat.mkRat_def]; simp [show b ≠ 0 by omega]
  rw [h, Rat.normalize_eq]
  constructor
  · simp
  · simp
theorem by_ok (a b : Nat) (hb : 0 < b) (hl : Sm 8000 b) : m_by_lowest [.d (N a), .d (N b)] = some (.d (Q (mkRat a b)), []) := by
  have hg : 0 < Nat.gcd a b := Nat.gcd_pos_of_pos_right a hb
  have hg' : (0 : Int) < (Nat.gcd a b : Int) := by omega
  have hl' : (Nat.gcd a b).log2 < 9000 := Nat.lt_of_le_of_lt (hl.le (Nat.gcd_le_right a hb)).log (by omega)
  obtain ⟨e1, e2⟩ := mk_num a b hb
  simp [m_by_lowest, g_by_lowest, run_ap, startD, divisor_ok, hg, hl', DL.sizeLine_eq, Q, e1, e2]
structure Bd (k : Nat) (r : Rat) : Prop where
  nn : 0 ≤ r
  n : Sm k r.num.natAbs
  d : Sm k r.den
theorem Bd.mono {j k : Nat} {r : Rat} (h : Bd j r) (hk : j ≤ k) : Bd k r := ⟨h.nn, h.n.mono hk, h.d.mono hk⟩
theorem Bd.nat {k : Nat} {r : Rat} (h : Bd k r) : ∃ a : Nat, r.num = (a : Int) ∧ Sm k a ∧ 0 < r.den := by
  obtain ⟨a, e⟩ := Int.eq_ofNat_of_zero_le (Rat.num_nonneg.mpr h.nn)
  have := h.n
  rw [e] at this
  exact ⟨a, e, by simpa using this, r.den_pos⟩
theorem rat_mk (r : Rat) : mkRat r.num r.den = r := Rat.mkRat_self r
theorem bd_mk {k a b : Nat} (hb : 0 < b) (h1 : Sm k a) (h2 : Sm k b) : Bd k (mkRat a b) := by
  obtain ⟨e1, e2⟩ := mk_num a b hb
  refine ⟨Rat.num_nonneg.mp (by rw [e1]; exact Int.natCast_nonneg _), ?_, ?_⟩
  · rw [e1]
    exact h1.le (Nat.div_le_self _ _)
  · rw [e2]
    exact h2.le (Nat.div_le_self _ _)
theorem mul_small {a b : Nat} (ha : Sm 8000 a) (hb : Sm 8000 b) : a.log2 + b.log2 < 1000000 := by
  have h1 := ha.log
  have h2 := hb.log
  omega
theorem add_mk {r s : Rat} {a c : Nat} (h1 : r.num = a) (h2 : s.num = c) : mkRat ((a * s.den + c * r.den : Nat) : Int) (r.den * s.den) = r + s := by
  rw [Rat.add_def, Rat.mkRat_def, h1, h2]
  have := r.den_pos
  have := s.den_pos
  have hne : r.den * s.den ≠ 0 := Nat.ne_of_gt (Nat.mul_pos r.den_pos s.den_pos)
  simp [hne]
theorem mul_mk {r s : Rat} {a c : Nat} (h1 : r.num = a) (h2 : s.num = c) : mkRat ((a * c : Nat) : Int) (r.den * s.den) = r * s := by
  rw [Rat.mul_def, Rat.mkRat_def, h1, h2]
  have hne : r.den * s.den ≠ 0 := Nat.ne_of_gt (Nat.mul_pos r.den_pos s.den_pos)
  simp [hne]
theorem plus_ok {j k : Nat} {r s : Rat} (hr : Bd j r) (hs : Bd k s) (hk : j + k + 1 ≤ 8000) : m_put_together [.d (Q r), .d (Q s)] = some (.d (Q (r + s)), []) ∧ Bd (j + k + 1) (r + s) := by
  obtain ⟨a, e1, s1, p1⟩ := hr.nat
  obtain ⟨c, e2, s2, p2⟩ := hs.nat
  have m1 := mul_small (s1.mono (by omega)) (hs.d.mono (by omega))
  have m2 := mul_small (s2.mono (by omega)) (hr.d.mono (by omega))
  have m3 := mul_small (hr.d.mono (by omega)) (hs.d.mono (by omega))
  have h := by_ok (a * s.den + c * r.den) (r.den * s.den) (Nat.mul_pos p1 p2) ((hr.d.mul hs.d).mono (by omega))
  have hb := bd_mk (k := j + k + 1) (Nat.mul_pos p1 p2) ((s1.mul hs.d).add ((s2.mul hr.d).mono (by omega))) ((hr.d.mul hs.d).mono (by omega))
  rw [add_mk e1 e2] at h hb
  refine ⟨?_, hb⟩
  simp only [N, Int.natCast_add, Int.natCast_mul] at h
  simp only [Q] at h ⊢
  simp [m_put_together, g_put_together, run_ap, startD, e1, e2, m1, m2, m3, h]
theorem times_ok {j k : Nat} {r s : Rat} (hr : Bd j r) (hs : Bd k s) (hk : j + k ≤ 8000) : m_times [.d (Q r), .d (Q s)] = some (.d (Q (r * s)), []) ∧ Bd (j + k) (r * s) := by
  obtain ⟨a, e1, s1, p1⟩ := hr.nat
  obtain ⟨c, e2, s2, p2⟩ := hs.nat
  have m1 := mul_small (s1.mono (by omega)) (s2.mono (by omega))
  have m3 := mul_small (hr.d.mono (by omega)) (hs.d.mono (by omega))
  have h := by_ok (a * c) (r.den * s.den) (Nat.mul_pos p1 p2) ((hr.d.mul hs.d).mono (by omega))
  have hb := bd_mk (k := j + k) (Nat.mul_pos p1 p2) (s1.mul s2) (hr.d.mul hs.d)
  rw [mul_mk e1 e2] at h hb
  refine ⟨?_, hb⟩
  simp only [N, Int.natCast_add, Int.natCast_mul] at h
  simp only [Q] at h ⊢
  simp [m_times, g_times, run_ap, startD, e1, e2, m1, m3, h]
theorem below_ok {j k : Nat} {r s : Rat} (hr : Bd j r) (hs : Bd k s) (hk : j + k ≤ 8000) : m_is_below [.d (Q r), .d (Q s)] = some (.d (.bool (decide (r < s))), []) := by
  obtain ⟨a, e1, s1, p1⟩ := hr.nat
  obtain ⟨c, e2, s2, p2⟩ := hs.nat
  have m1 := mul_small (s1.mono (by omega)) (hs.d.mono (by omega))
  have m2 := mul_small (s2.mono (by omega)) (hr.d.mono (by omega))
  have e : decide (r < s) = decide ((a : Int) * s.den < c * r.den) := by
    congr 1
    rw [Rat.lt_iff, e1, e2]
  simp [m_is_below, g_is_below, run_ap, startD, Q, e1, e2, m1, m2, e]
theorem sub_mk {r s : Rat} {a c : Nat} (h1 : r.num = a) (h2 : s.num = c) (hle : c * r.den ≤ a * s.den) : mkRat ((a * s.den - c * r.den : Nat) : Int) (r.den * s.den) = r - s := by
  rw [Rat.sub_def, Rat.mkRat_def, h1, h2]
  have hne : r.den * s.den ≠ 0 := Nat.ne_of_gt (Nat.mul_pos r.den_pos s.den_pos)
  simp [hne, Int.natCast_sub hle]
theorem taken_ok {j k : Nat} {r s : Rat} (hr : Bd j r) (hs : Bd k s) (hk : j + k ≤ 8000) (hle : s ≤ r) : m_taken_off [.d (Q r), .d (Q s)] = some (.d (Q (r - s)), []) ∧ Bd (j + k) (r - s) := by
  obtain ⟨a, e1, s1, p1⟩ := hr.nat
  obtain ⟨c, e2, s2, p2⟩ := hs.nat
  have hle' : c * r.den ≤ a * s.den := by
    rw [Rat.le_iff, e1, e2] at hle
    have : ((c * r.den : Nat) : Int) ≤ ((a * s.den : Nat) : Int) := by simpa using hle
    omega
  have m1 := mul_small (s1.mono (by omega)) (hs.d.mono (by omega))
  have m2 := mul_small (s2.mono (by omega)) (hr.d.mono (by omega))
  have m3 := mul_small (hr.d.mono (by omega)) (hs.d.mono (by omega))
  have h := by_ok (a * s.den - c * r.den) (r.den * s.den) (Nat.mul_pos p1 p2) ((hr.d.mul hs.d).mono (by omega))
  have hb := bd_mk (k := j + k) (Nat.mul_pos p1 p2) ((s1.mul hs.d).le (Nat.sub_le _ (c * r.den))) (hr.d.mul hs.d)
  rw [sub_mk e1 e2 hle'] at h hb
  refine ⟨?_, hb⟩
  simp only [N, Int.natCast_sub hle', Int.natCast_mul] at h
  simp only [Q] at h ⊢
  simp [m_taken_off, g_taken_off, run_ap, startD, e1, e2, m1, m2, m3, h]
theorem bd_zero : Bd 2 0 := ⟨by decide, sm_of 2 (by decide), sm_of 2 (by decide)⟩
theorem bd_one : Bd 2 1 := ⟨by decide, sm_of 2 (by decide), sm_of 2 (by decide)⟩
theorem Q_zero : Q 0 = .tuple [.int 0, .int 1] := rfl
theorem Q_one : Q 1 = .tuple [.int 1, .int 1] := rfl
theorem Q_inj {r s : Rat} (h : Q r = Q s) : r = s := by
  simp only [Q, PyData.tuple.injEq, List.cons.injEq, PyData.int.injEq, and_true] at h
  exact Rat.ext h.1 (by omega)
end P
end

section
set_option linter.all false
namespace P
open PySem DL
/-! ## tables -/
def Ns (ts : List Nat) : List D := ts.map fun k => N k
abbrev tab (ts : List Nat) : D := .list (Ns ts)
theorem len_Ns (ts) : (Ns ts).length = ts.length := by simp [Ns]
theorem ints_Ns : ∀ ts : List Nat, intsOf (Ns ts) = some (ts.map fun (k : Nat) => (k : Int))
  | [] => rfl
  | t :: r => by
    show (intsOf (Ns r)).bind _ = _
    rw [ints_Ns r]
    rfl
theorem sum_cast : ∀ ts : List Nat, (ts.map fun (k : Nat) => (k : Int)).sum = ((ts.sum : Nat) : Int)
  | [] => rfl
  | t :: r => by simp [sum_cast r]
theorem sum_ok (ts : List Nat) : bSum [tab ts] = some (.d (N ts.sum)) := by
  show (intsOf (Ns ts)).bind _ = _
  rw [ints_Ns]
  show some (Rv.d (.int (ts.map fun (k : Nat) => (k : Int)).sum)) = _
  rw [sum_cast]
theorem ix_ok (ts : List Nat) {p : Nat} (h : p < ts.length) : opIx (tab ts) (N p) = some (.d (N (ts[p]))) := by
  have h' : (p : Int) < (Ns ts).length := by rw [len_Ns]; omega
  have e : (Ns ts)[p]? = some (N ts[p]) := by
    unfold Ns
    rw [List.getElem?_map, List.getElem?_eq_getElem h]
    rfl
  show (ixAt (Ns ts) (p : Int)).bind _ = _
  have e2 : ixAt (Ns ts) (p : Int) = some p := by
    unfold ixAt
    rw [if_pos (by omega), if_pos h']
    simp
  rw [e2]
  show ((Ns ts)[p]?).bind _ = _
  rw [e]
  rfl
theorem cut_to {α : Type} (xs : List α) {p : Nat} (h : p ≤ xs.length) : cutD xs none (some (p : Int)) = xs.take p := by
  have e : cutAt xs.length xs.length (some (p : Int)) = p := by
    show (if (p : Int) < 0 then ((p : Int) + (xs.length : Int)).toNat else min (p : Int).toNat xs.length) = p
    rw [if_neg (by omega)]
    simp
    omega
  show (xs.drop 0).take (cutAt xs.length xs.length (some (p : Int)) - 0) = _
  rw [e]
  simp
theorem slice_ok (ts : List Nat) {p : Nat} (h : p ≤ ts.length) : opSlice (tab ts) none (some (p : Int)) = some (.tmp (Ns (ts.take p))) := by
  show some (Rv.tmp (cutD (Ns ts) none (some (p : Int)))) = _
  rw [cut_to _ (by rw [len_Ns]; exact h)]
  unfold Ns
  rw [List.map_take]
theorem bools_rep : ∀ n : Nat, boolsOf (List.replicate n (.bool true)) = some (List.replicate n true)
  | 0 => rfl
  | n + 1 => by
    rw [List.replicate_succ, List.replicate_succ, boolsOf, bools_rep n]
    rfl
theorem fm_const (b : D) : ∀ xs : List D, xs.filterMap (fun _ => some b) = List.replicate xs.length b
  | [] => rfl
  | x :: r => by rw [List.filterMap_cons, fm_const b r]; rfl

theorem ixAt_n {α : Type} (xs : List α) {p : Nat} (h : p < xs.length) : ixAt xs (p : Int) = some p := by
  unfold ixAt
  rw [if_pos (by omega), if_pos (by omega)]
  simp
theorem ix_l (xs : List D) {p : Nat} (h : p < xs.length) : opIx (.list xs) (N p) = some (.d xs[p]) := by
  show (ixAt xs (p : Int)).bind _ = _
  rw [ixAt_n xs h]
  show (xs[p]?).bind _ = _
  rw [List.getElem?_eq_getElem h]
  rfl
theorem ix_t (xs : List D) {p : Nat} (h : p < xs.length) : opIx (.tuple xs) (N p) = some (.d xs[p]) := by
  show (ixAt xs (p : Int)).bind _ = _
  rw [ixAt_n xs h]
  show (xs[p]?).bind _ = _
  rw [List.getElem?_eq_getElem h]
  rfl

theorem nd_free {o : Option SV} (h : o = none ∨ ∃ y, o = some (.d y)) : nd o = true := by
  rcases h with rfl | ⟨y, rfl⟩ <;> rfl

def cnt : D → Bool
  | .int i => decide (0 ≤ i)
  | _ => false
theorem count_ok (x : D) (hx : ∀ k, x ≠ .dict k) (k : Int) : m_is_count [.d x, .d (.int k)] = some (.d (.bool (match x with | .int i => decide (k ≤ i) | _ => false)), []) := by
  cases x with
  | dict k => exact absurd rfl (hx k)
  | _ => simp [m_is_count, g_is_count, run_ap, startD]
theorem count0_ok (x : D) (hx : ∀ k, x ≠ .dict k) : m_is_count [.d x, .d (.int 0)] = some (.d (.bool (cnt x)), []) := by
  rw [count_ok x hx]
  cases x <;> rfl
/-- no dict, ints below 10 ^ 40, lists not too long, at most n deep -/
def Fit : Nat → D → Prop
  | n, .list xs => xs.length ≤ 1000 ∧ match n with
    | 0 => False
    | n + 1 => ∀ y ∈ xs, Fit n y
  | n, .tuple xs => xs.length ≤ 1000 ∧ match n with
    | 0 => False
    | n + 1 => ∀ y ∈ xs, Fit n y
  | _, .dict _ => False
  | _, .int i => i ≤ 10000000000000000000000000000000000000000
  | _, _ => True
theorem Fit.nd {n : Nat} {x : D} (h : Fit n x) : ∀ k, x ≠ .dict k := by
  rintro k rfl
  cases n <;> exact h
theorem counts_go {L : D} {n : Nat} : ∀ xs : List D, (∀ y ∈ xs, Fit n y) → lcGo (DL.gName 1) (dTests) (dCall m_is_count [false] [PyData.int 0] (dCons (dVar 1) (dNil))) [1] xs [some (.d L), none] = some (xs.map fun y => .bool (cnt y), [some (.d L), none])
  | [], _ => by simp [lcGo_nil]
  | x :: r, h => by
    have ih := counts_go (L := L) r fun y hy => h y (by simp [hy])
    rw [lcGo_cons]
    simp [count0_ok x (h x (by simp)).nd, ih]
theorem bools_map {α : Type} (f : α → Bool) : ∀ xs : List α, boolsOf (xs.map fun y => .bool (f y)) = some (xs.map f)
  | [] => rfl
  | x :: r => by simp [bools_map f r]
def areC : D → Bool
  | .list xs => xs.all cnt
  | _ => false
theorem le_size {n : Nat} (h : n ≤ 1000) : n ≤ sizeLine := by rw [DL.sizeLine_eq]; omega
theorem Fit.list {n : Nat} {xs : List D} (h : Fit n (.list xs)) : xs.length ≤ 1000 ∧ ∀ y ∈ xs, Fit (n - 1) y := by
  cases n with
  | zero => exact h.2.elim
  | succ n => exact h
theorem Fit.tup {n : Nat} {xs : List D} (h : Fit n (.tuple xs)) : xs.length ≤ 1000 ∧ ∀ y ∈ xs, Fit (n - 1) y := by
  cases n with
  | zero => exact h.2.elim
  | succ n => exact h
theorem countsF_ok {n : Nat} {x : D} (h : Fit n x) : m_are_counts [.d x] = some (.d (.bool (areC x)), []) := by
  cases x with
  | dict k => exact absurd rfl (h.nd k)
  | list xs =>
    have g := counts_go (L := .list xs) xs h.list.2
    simp [m_are_counts, g_are_counts, run_ap, startD, le_size h.list.1, g, bools_map, areC, List.all_map]
  | _ => simp [m_are_counts, g_are_counts, run_ap, startD, areC]
def isum : List D → Int
  | [] => 0
  | .int i :: r => i + isum r
  | _ :: r => isum r
theorem ints_ok : ∀ xs : List D, xs.all cnt = true → ∃ is, intsOf xs = some is ∧ is.sum = isum xs
  | [], _ => ⟨[], rfl, rfl⟩
  | .int i :: r, h => by
    obtain ⟨is, h1, h2⟩ := ints_ok r (by simp at h; simpa using h.2)
    exact ⟨i :: is, by rw [intsOf, h1]; rfl, by simp [isum, h2]⟩
  | .none :: r, h => by simp [cnt] at h
  | .bool _ :: r, h => by simp [cnt] at h
  | .str _ :: r, h => by simp [cnt] at h
  | .list _ :: r, h => by simp [cnt] at h
  | .tuple _ :: r, h => by simp [cnt] at h
  | .dict _ :: r, h => by simp [cnt] at h
def isT : D → Bool
  | .list xs => xs.all cnt && decide (0 < isum xs)
  | _ => false
theorem tableF_ok {n : Nat} {x : D} (h : Fit n x) : m_is_table [.d x] = some (.d (.bool (isT x)), []) := by
  have hc := countsF_ok h
  cases x with
  | dict k => exact absurd rfl (h.nd k)
  | list xs =>
    by_cases c : xs.all cnt = true
    · obtain ⟨is, h1, h2⟩ := ints_ok xs c
      simp only [areC, c] at hc
      simp [m_is_table, g_is_table, run_ap, startD, hc, h1, h2, isT, c]
    · have c' : xs.all cnt = false := by simpa using c
      simp only [areC, c'] at hc
      simp [m_is_table, g_is_table, run_ap, startD, hc, isT, c']
  | _ =>
    simp only [areC] at hc
    simp [m_is_table, g_is_table, run_ap, startD, hc, isT]

mutual
theorem fit_plain : ∀ (n : Nat) (x : D), Fit n x → x.plain = true ∧ x.depth ≤ n
  | n, .none, _ => by simp [PyData.plain, PyData.depth]
  | n, .bool _, _ => by simp [PyData.plain, PyData.depth]
  | n, .int _, _ => by simp [PyData.plain, PyData.depth]
  | n, .str _, _ => by simp [PyData.plain, PyData.depth]
  | 0, .list xs, h => h.2.elim
  | n + 1, .list xs, h => by
    obtain ⟨a, b⟩ := fit_plainAll n xs h.2
    simp [PyData.plain, PyData.depth, a, b]
  | 0, .tuple xs, h => h.2.elim
  | n + 1, .tuple xs, h => by
    obtain ⟨a, b⟩ := fit_plainAll n xs h.2
    simp [PyData.plain, PyData.depth, a, b]
  | n, .dict k, h => absurd rfl (h.nd k)
theorem fit_plainAll : ∀ (n : Nat) (xs : List D), (∀ y ∈ xs, Fit n y) → PyData.plainAll xs = true ∧ PyData.depthAll xs ≤ n
  | n, [], _ => by simp [PyData.plainAll, PyData.depthAll]
  | n, x :: r, h => by
    obtain ⟨a, b⟩ := fit_plain n x (h x (by simp))
    obtain ⟨c, d⟩ := fit_plainAll n r fun y hy => h y (by simp [hy])
    simp [PyData.plainAll, PyData.depthAll, a, c]
    omega
end
theorem Fit.flat {n : Nat} {x : D} (h : Fit n x) (hn : n ≤ 60) : flat x = true := by
  obtain ⟨a, b⟩ := fit_plain n x h
  simp [DL.flat, a]
  omega
theorem flat_list {n : Nat} {xs : List D} (h : ∀ y ∈ xs, Fit n y) (hn : n ≤ 60) : DL.flat (.list xs) = true := by
  obtain ⟨a, b⟩ := fit_plainAll n xs h
  simp [DL.flat, PyData.plain, PyData.depth, a]
  omega
theorem ne_list {xs : List D} (h : DL.flat (.list xs) = true) : opNe (.list xs) (.list []) = some (.d (.bool (!xs.isEmpty))) := by
  have h0 : DL.flat (.list []) = true := rfl
  cases xs <;> simp [opNe, h, h0, PyData.eqv, PyData.eqvAll]
theorem eq_list {xs : List D} (h : DL.flat (.list xs) = true) : opEq (.list xs) (.list []) = some (.d (.bool xs.isEmpty)) := by
  have h0 : DL.flat (.list []) = true := rfl
  cases xs <;> simp [opEq, h, h0, PyData.eqv, PyData.eqvAll]

def gall : List Nat → Nat → Nat
  | [], g => g
  | t :: r, g => gall r (Nat.gcd g t)
theorem gall_dvd : ∀ (ts : List Nat) (g : Nat), gall ts g ∣ g ∧ ∀ t ∈ ts, gall ts g ∣ t
  | [], g => ⟨Nat.dvd_refl g, fun t ht => by simp at ht⟩
  | t :: r, g => by
    obtain ⟨h1, h2⟩ := gall_dvd r (Nat.gcd g t)
    refine ⟨Nat.dvd_trans h1 (Nat.gcd_dvd_left g t), fun x hx => ?_⟩
    rcases List.mem_cons.mp hx with rfl | hx
    · exact Nat.dvd_trans h1 (Nat.gcd_dvd_right g _)
    · exact h2 x hx
def gg (ts : List Nat) : Nat := gall ts 0
theorem sum_pos_mem : ∀ {ts : List Nat}, 0 < ts.sum → ∃ t ∈ ts, 0 < t
  | [], h => by simp at h
  | t :: r, h => by
    by_cases ht : 0 < t
    · exact ⟨t, by simp, ht⟩
    · obtain ⟨x, hx, h'⟩ := sum_pos_mem (ts := r) (by simp at h; omega)
      exact ⟨x, by simp [hx], h'⟩
theorem gg_pos {ts : List Nat} (h : 0 < ts.sum) : 0 < gg ts := by
  obtain ⟨t, ht, h0⟩ := sum_pos_mem h
  exact Nat.pos_of_dvd_of_pos ((gall_dvd ts 0).2 t ht) h0
theorem mem_le_sum : ∀ {ts : List Nat} {t : Nat}, t ∈ ts → t ≤ ts.sum
  | t :: r, x, h => by
    rcases List.mem_cons.mp h with rfl | h
    · simp
    · have := mem_le_sum h
      simp
      omega
theorem gg_le {ts : List Nat} (h : 0 < ts.sum) : gg ts ≤ ts.sum := by
  obtain ⟨t, ht, h0⟩ := sum_pos_mem h
  exact Nat.le_trans (Nat.le_of_dvd h0 ((gall_dvd ts 0).2 t ht)) (mem_le_sum ht)
def lw (ts : List Nat) : List Nat := ts.map fun t => t / gg ts

theorem gall_go1 {tb : D} : ∀ (ts : List Nat) (g : Nat) (o : Option SV), (o = none ∨ ∃ y, o = some (.d y)) → ∃ o', (o' = none ∨ ∃ y, o' = some (.d y)) ∧ forGo (DL.gName 2) (dSet 1 (dCall m_divisor [false, false] [] (dCons (dVar 1) (dCons (dVar 2) (dNil))))) (Ns ts) [some (.d tb), some (.d (N g)), o] = some (.nx, [some (.d tb), some (.d (N (gall ts g))), o'])
  | [], g, o, ho => ⟨o, ho, by rw [Ns, List.map_nil, forGo_nil, gall]⟩
  | t :: r, g, o, ho => by
    obtain ⟨o', h', e⟩ := gall_go1 (tb := tb) r (Nat.gcd g t) (some (.d (N t))) (.inr ⟨_, rfl⟩)
    have d := divisor_ok g t
    refine ⟨o', h', ?_⟩
    rw [show Ns (t :: r) = N t :: Ns r from rfl, forGo_cons]
    simp only [N] at d e
    rcases ho with rfl | ⟨y, rfl⟩ <;> simp [d, e, gall]

theorem fm_map {α : Type} {g : α → D} {f : D → Option D} {h : α → D} (e : ∀ i, f (g i) = some (h i)) : ∀ l : List α, (l.map g).filterMap f = l.map h
  | [] => rfl
  | x :: r => by rw [List.map_cons, List.filterMap_cons, e, List.map_cons, fm_map e r]

def divF (g : Nat) (x : D) : Option D := match x with
  | .int i => some (.int (i / (g : Int)))
  | _ => none
theorem div_map (ts : List Nat) : (Ns ts).filterMap (divF (gg ts)) = Ns (lw ts) := by
  unfold lw Ns
  rw [List.map_map]
  exact fm_map (g := fun k : Nat => N k) (f := divF (gg ts)) (h := (fun k => N k) ∘ fun t => t / gg ts) (fun i => rfl) ts

theorem isum_Ns : ∀ ts : List Nat, isum (Ns ts) = (ts.sum : Nat)
  | [] => rfl
  | t :: r => by
    show (t : Int) + isum (Ns r) = _
    rw [isum_Ns r]
    simp
theorem all_Ns (ts : List Nat) : (Ns ts).all cnt = true := by
  rw [List.all_eq_true]
  intro x hx
  obtain ⟨k, _, rfl⟩ := List.mem_map.mp hx
  simp [cnt]
theorem isT_tab (ts : List Nat) : isT (tab ts) = decide (0 < ts.sum) := by
  show ((Ns ts).all cnt && decide (0 < isum (Ns ts))) = _
  rw [all_Ns, isum_Ns]
  simp
theorem countN_ok (k : Nat) : m_is_count [.d (.int (k : Nat)), .d (.int 0)] = some (.d (.bool true), []) := by
  rw [count0_ok _ (by simp)]
  simp [cnt]
theorem counts_ok (ts : List Nat) (hl : ts.length ≤ 1000000) : m_are_counts [.d (tab ts)] = some (.d (.bool true), []) := by
  refine okP.eq ?_
  have hl2 := len_Ns ts
  have hl3 : ts.length ≤ 16777216 := by omega
  simp [m_are_counts, g_are_counts, run_ap, startD, hl2, hl3, DL.sizeLine_eq]
  simp only [okP_obind]
  refine okP_of (lc_map (fun _ => some (.bool true)) fun x hx => ?_) ?_
  · obtain ⟨k, _, rfl⟩ := List.mem_map.mp hx
    simp [okP_some, countN_ok]
  · rw [fm_const]
    simp [okP_some, bools_rep]
theorem table_ok (ts : List Nat) (hl : ts.length ≤ 1000000) : m_is_table [.d (tab ts)] = some (.d (.bool (decide (0 < ts.sum))), []) := by
  have h2 := sum_ok ts
  simp only [N] at h2
  simp [m_is_table, g_is_table, run_ap, startD, counts_ok ts hl, h2, -bSum_l]
theorem look_table_ok (ts : List Nat) (hl : ts.length ≤ 1000000) (hs : 0 < ts.sum) : m_look_at_table [.d (tab ts)] = some (.d .none, []) := by
  simp [m_look_at_table, g_look_at_table, run_ap, startD, table_ok ts hl, hs]
theorem look_two_ok {ts us : List Nat} (hl : ts.length ≤ 1000000) (he : us.length = ts.length) (hs : 0 < ts.sum) (hu : 0 < us.sum) : m_look_at_two [.d (tab ts), .d (tab us)] = some (.d .none, []) := by
  have h1 := len_Ns ts
  have h2 := len_Ns us
  simp [m_look_at_two, g_look_at_two, run_ap, startD, look_table_ok ts hl hs, table_ok us (by omega), hu, h1, h2, he]
/-- the odds at a count -/
def sh (ts : List Nat) (t : Nat) : Rat := mkRat t ts.sum
def shF (ts : List Nat) (x : D) : Option D := match x with
  | .int i => some (Q (sh ts i.toNat))
  | _ => none
theorem sh_map (ts us : List Nat) : (Ns us).filterMap (shF ts) = us.map fun t => Q (sh ts t) := by
  unfold Ns
  exact fm_map (g := fun k : Nat => N k) (f := shF ts) (h := fun t => Q (sh ts t)) (fun i => rfl) us
theorem odds_in_ok {ts : List Nat} (hl : ts.length ≤ 1000000) (h0 : 0 < ts.sum) (hT : Sm 8000 ts.sum) : m_odds_in [.d (tab ts)] = some (.own (ts.map fun t => Q (sh ts t)), []) := by
  refine okP.eq ?_
  have hl2 := len_Ns ts
  have hl3 : ts.length ≤ 16777216 := by omega
  have h2 := sum_ok ts
  simp only [N] at h2
  simp [m_odds_in, g_odds_in, run_ap, startD, hl2, hl3, DL.sizeLine_eq]
  simp only [okP_obind]
  refine okP_of (lc_map (shF ts) fun x hx => ?_) ?_
  · obtain ⟨k, _, rfl⟩ := List.mem_map.mp hx
    have b := by_ok k ts.sum h0 hT
    simp only [N] at b
    simp [okP_some, h2, b, shF, sh, -bSum_l]
  · rw [sh_map]
    simp [okP_some]
theorem bd_sh {ts : List Nat} {k t : Nat} (h0 : 0 < ts.sum) (hT : Sm k ts.sum) (ht : t ≤ ts.sum) : Bd k (sh ts t) := bd_mk h0 (hT.le ht) hT
theorem total_go {L : D} {k : Nat} : ∀ (rs : List Rat) (j : Nat) (p : Rat) (v : Option SV), nd v = true → (∀ r ∈ rs, Bd k r) → Bd j p → j + rs.length * (k + 1) ≤ 8000 →
    (∃ v', nd v' = true ∧ forGo (DL.gName 2) (dSet 1 (dCall m_put_together [false, false] [] (dCons (dVar 1) (dCons (dVar 2) (dNil))))) (rs.map Q) [some (.d L), some (.d (Q p)), v] = some (.nx, [some (.d L), some (.d (Q (p + rs.sum))), v'])) ∧ Bd (j + rs.length * (k + 1)) (p + rs.sum)
  | [], j, p, v, hv, hf, hp, hk => ⟨⟨v, hv, by simp [forGo_nil, Rat.add_zero]⟩, by simpa [Rat.add_zero] using hp⟩
  | y :: r, j, p, v, hv, hf, hp, hk => by
    simp only [List.length_cons, Nat.succ_mul] at hk
    obtain ⟨e, m⟩ := plus_ok hp (hf y (by simp)) (by omega)
    obtain ⟨⟨v', hv', h⟩, b⟩ := total_go (L := L) (k := k) r (j + (k + 1)) (p + y) (some (.d (Q y))) rfl (fun z hz => hf z (by simp [hz])) m (by omega)
    rw [Rat.add_assoc, ← List.sum_cons] at h b
    refine ⟨⟨v', hv', ?_⟩, ?_⟩
    · rw [List.map_cons, forGo_cons]
      simp [kSetS_nd hv, e, h]
    · rw [List.length_cons, Nat.succ_mul]
      exact b.mono (by omega)
theorem total_ok {rs : List Rat} {k : Nat} (hf : ∀ r ∈ rs, Bd k r) (hk : 2 + rs.length * (k + 1) ≤ 8000) : m_total [.d (.list (rs.map Q))] = some (.d (Q rs.sum), []) ∧ Bd (2 + rs.length * (k + 1)) rs.sum := by
  obtain ⟨⟨v', hv', h⟩, b⟩ := total_go (L := .list (rs.map Q)) rs 2 0 none rfl hf bd_zero hk
  rw [Q_zero, Rat.zero_add] at h
  rw [Rat.zero_add] at b
  exact ⟨by simp [m_total, g_total, run_ap, startD, h, DL.sizeLine_eq], b⟩
theorem lowered_ok {ts : List Nat} (hl : ts.length ≤ 1000000) (h0 : 0 < ts.sum) (hT : Sm 8000 ts.sum) : m_lowered [.d (tab ts)] = some (.own (Ns (lw ts)), []) := by
  have hg := gg_pos h0
  have hg' : (0 : Int) < (gg ts : Nat) := by omega
  have lg : (gg ts).log2 < 9000 := Nat.lt_of_le_of_lt (hT.le (gg_le h0)).log (by decide)
  have l1 := len_Ns ts
  have l2 : ts.length ≤ 16777216 := by omega
  have hgg : gall ts 0 = gg ts := rfl
  obtain ⟨o', ho, e⟩ := gall_go1 (tb := tab ts) ts 0 none (.inl rfl)
  rw [hgg] at e
  simp only [N] at e
  rw [show ((0 : Nat) : Int) = 0 from rfl] at e
  refine okP.eq ?_
  rcases ho with rfl | ⟨y, rfl⟩ <;>
  · simp [m_lowered, g_lowered, run_ap, startD, e, l1, l2, DL.sizeLine_eq]
    simp only [okP_obind]
    refine okP_of (lc_map (divF (gg ts)) fun x hx => ?_) ?_
    · obtain ⟨i, _, rfl⟩ := List.mem_map.mp hx
      simp [okP_some, divF, hg, hg', lg]
    · rw [div_map]
      simp [okP_some]
theorem lowest_ok {ts : List Nat} (hl : ts.length ≤ 1000000) (h0 : 0 < ts.sum) (hT : Sm 8000 ts.sum) : m_lowest [.d (tab ts)] = some (.own (Ns (lw ts)), []) := by
  simp [m_lowest, g_lowest, run_ap, startD, lowered_ok hl h0 hT, look_table_ok ts hl h0]
end P
end

section
set_option linter.all false
namespace P
open PySem DL
/-! ## the same; the purse -/
def okS : Nat → D → Prop
  | 0, _ => False
  | n + 1, x => match x with
    | .list xs => xs.length ≤ sizeLine ∧ ∀ y ∈ xs, okS n y
    | .tuple xs => xs.length ≤ sizeLine ∧ ∀ y ∈ xs, okS n y
    | .dict _ => False
    | _ => True
theorem same_go {n : Nat} {x y z : D} : ∀ xs : List D, (∀ y ∈ xs, m__law_same n [.d y, .d y] = some (.d (.bool true), [])) →
    lcGo (DL.gTup 2 (DL.gCons (DL.gName 3) (DL.gCons (DL.gName 4) (DL.gNil)))) (dTests) (dCall (m__law_same n) [false, false] [] (dCons (dVar 3) (dCons (dVar 4) (dNil)))) [3, 4] ((xs.zip xs).map fun p => .tuple [p.1, p.2]) [some (.d x), some (.d y), some (.d z), none, none] =
      some (List.replicate xs.length (.bool true), [some (.d x), some (.d y), some (.d z), none, none])
  | [], _ => by simp [lcGo_nil]
  | u :: r, h => by
    have ih := same_go (x := x) (y := y) (z := z) r fun y hy => h y (by simp [hy])
    simp only [List.zip_cons_cons, List.map_cons, lcGo_cons]
    simp [h u (by simp), ih, List.replicate_succ]
theorem bools_rep' (n : Nat) : boolsOf (List.replicate n (.bool true)) = some (List.replicate n true) := by
  induction n with
  | zero => rfl
  | succ n ih => simp [List.replicate_succ, ih]
theorem beq_self_str (z : Str) : PyData.eqv (.str z) (.str z) = true := by simp [PyData.eqv]
theorem same_ok : ∀ (n : Nat) (x : D), okS n x → m__law_same n [.d x, .d x] = some (.d (.bool true), [])
  | 0, _, h => h.elim
  | n + 1, x, h => by
    match x, h with
    | .none, _ => simp [m__law_same, g__law_same, run_ap, startD]
    | .bool b, _ => cases b <;> simp [m__law_same, g__law_same, run_ap, startD]
    | .int i, _ => simp [m__law_same, g__law_same, run_ap, startD]
    | .str z, _ =>
      have e : opEq (.str z) (.str z) = some (.d (.bool true)) := by simp [opEq, flat, PyData.plain, PyData.depth, beq_self_str]
      simp [m__law_same, g__law_same, run_ap, startD, e]
    | .list xs, h =>
      have g := same_go (n := n) (x := .list xs) (y := .list xs) (z := .bool true) xs fun y hy => same_ok n y (h.2 y hy)
      simp [m__law_same, g__law_same, run_ap, startD, g, h.1, bools_rep]
    | .tuple xs, h =>
      have g := same_go (n := n) (x := .tuple xs) (y := .tuple xs) (z := .bool true) xs fun y hy => same_ok n y (h.2 y hy)
      simp [m__law_same, g__law_same, run_ap, startD, g, h.1, bools_rep]

def purse (cells : List Nat) (ix cur cnt seed : Nat) : List D := [.list (cells.map N), N ix, N cur, N cnt, N seed]
def Purse (n : Nat) (P : List D) : Prop := ∃ cells ix cur cnt seed, P = purse cells ix cur cnt seed ∧ ix ≤ cells.length ∧ cnt ≤ n ∧ seed < 2147483647
def stir (cnt seed : Nat) : Nat := (((cnt + 1) * (cnt + 1) + seed) * 48271) % 2147483629
def toss (cnt seed many : Nat) : Nat := (stir cnt seed * stir cnt seed) % 2147483587 % many
theorem cast_stir (cnt seed : Nat) : (((cnt : Int) + 1) * ((cnt : Int) + 1) + seed) * 48271 % 2147483629 = (stir cnt seed : Nat) := by
  simp [stir]
theorem cast_toss (cnt seed many : Nat) : ((stir cnt seed : Nat) : Int) * (stir cnt seed : Nat) % 2147483587 % (many : Nat) = (toss cnt seed many : Nat) := by
  simp [toss]
theorem toss_side {cnt seed : Nat} (hc : cnt ≤ 100000) (hs : seed < 2147483647) :
    (cnt + 1).log2 + (cnt + 1).log2 < 1000000 ∧ ((cnt + 1) * (cnt + 1) + seed).log2 + Nat.log2 48271 < 1000000 ∧ (stir cnt seed).log2 + (stir cnt seed).log2 < 1000000 := by
  have h1 : Sm 17 (cnt + 1) := sm_of 17 (by omega)
  have h2 : Sm 34 ((cnt + 1) * (cnt + 1)) := h1.mul h1
  have h3 : Sm 35 ((cnt + 1) * (cnt + 1) + seed) := h2.add ((sm_of 34 (by omega)))
  have h4 : Sm 31 (stir cnt seed) := sm_of 31 (Nat.lt_of_lt_of_le (Nat.mod_lt _ (by decide)) (by decide))
  have h5 : Sm 16 48271 := sm_of 16 (by decide)
  have g1 := h1.log
  have g3 := h3.log
  have g4 := h4.log
  have g5 := h5.log
  omega
theorem draw_ok {n : Nat} {P : List D} (hn : n ≤ 100000) (hP : Purse n P) (many : Nat) (h0 : 0 < many) (h1 : Sm 100 many) :
    ∃ r P', r < many ∧ Purse (n + 1) P' ∧ m__law_draw [.m P, .d (N many)] = some (.d (N r), [P']) := by
  obtain ⟨cells, ix, cur, cnt, seed, rfl, hi, hc, hs⟩ := hP
  have h0' : (0 : Int) < (many : Int) := by omega
  have hl : many.log2 < 9000 := Nat.lt_of_le_of_lt h1.log (by omega)
  by_cases hcur : many ≤ cur
  · refine ⟨cur % many, purse cells ix (cur / many) cnt seed, Nat.mod_lt _ h0, ⟨cells, ix, _, cnt, seed, rfl, hi, by omega, hs⟩, ?_⟩
    have e1 : ¬ ((cur : Int) < many) := by omega
    have e2 : (many : Int) ≤ cur := by omega
    simp [m__law_draw, g__law_draw, run_ap, startD, purse, e1, e2, h0, h0', hl]
  have e1 : ((cur : Int) < many) := by omega
  have e2 : ¬ (many : Int) ≤ cur := by omega
  obtain ⟨s1, s2, s3⟩ := toss_side (cnt := cnt) (seed := seed) (by omega) hs
  have a1 : ((cnt : Int) + 1).natAbs = cnt + 1 := by omega
  have a2 : (((cnt : Int) + 1) * ((cnt : Int) + 1) + seed).natAbs = (cnt + 1) * (cnt + 1) + seed := by
    rw [show (((cnt : Int) + 1) * ((cnt : Int) + 1) + seed) = (((cnt + 1) * (cnt + 1) + seed : Nat) : Int) by simp]
    rfl
  have ht : toss cnt seed many < many := Nat.mod_lt _ h0
  by_cases hix : ix < cells.length
  · have hix' : ((ix : Int) < cells.length) := by omega
    by_cases hc1 : many ≤ cells[ix]
    · have e3 : (many : Int) ≤ (cells[ix] : Nat) := by omega
      refine ⟨cells[ix] % many, purse cells (ix + 1) (cells[ix] / many) cnt seed, Nat.mod_lt _ h0, ⟨cells, _, _, cnt, seed, rfl, hix, by omega, hs⟩, ?_⟩
      simp [m__law_draw, g__law_draw, run_ap, startD, purse, e1, e3, h0, h0', hl, hix, hix', hc1]
    · have e3 : ¬ (many : Int) ≤ (cells[ix] : Nat) := by omega
      refine ⟨toss cnt seed many, purse cells (ix + 1) cells[ix] (cnt + 1) seed, ht, ⟨cells, _, _, _, seed, rfl, hix, by omega, hs⟩, ?_⟩
      simp [m__law_draw, g__law_draw, run_ap, startD, purse, e1, e3, h0, h0', hl, hix, hix', hc1, a1, a2, s1, s2, s3, cast_stir, cast_toss]
  · have hix' : ¬ ((ix : Int) < cells.length) := by omega
    refine ⟨toss cnt seed many, purse cells ix cur (cnt + 1) seed, ht, ⟨cells, _, _, _, seed, rfl, hi, by omega, hs⟩, ?_⟩
    simp [m__law_draw, g__law_draw, run_ap, startD, purse, e1, e2, h0, h0', hl, hix, hix', a1, a2, s1, s2, s3, cast_stir, cast_toss]
theorem pick_ok {n : Nat} {P : List D} (hn : n ≤ 100000) (hP : Purse n P) (xs : List D) (h0 : 0 < xs.length) (h1 : xs.length ≤ 1000) :
    ∃ x P', x ∈ xs ∧ Purse (n + 1) P' ∧ m__law_pick [.m P, .d (.list xs)] = some (.d x, [P']) := by
  obtain ⟨r, P', hr, hP', h⟩ := draw_ok hn hP xs.length h0 (sm_of 10 (by omega) |>.mono (by decide))
  refine ⟨xs[r], P', List.getElem_mem hr, hP', ?_⟩
  have hr' : (r : Int) < (xs.length : Int) := by omega
  simp [m__law_pick, g__law_pick, run_ap, startD, h, hr, hr']

theorem draw_int {n : Nat} {P : List D} (hn : n ≤ 100000) (hP : Purse n P) (m : Int) (h0 : 0 < m) (h1 : m < 2000000000000000000) :
    ∃ (r : Nat) (P' : List D), (r : Int) < m ∧ Purse (n + 1) P' ∧ m__law_draw [.m P, .d (.int m)] = some (.d (N r), [P']) := by
  obtain ⟨many, rfl⟩ := Int.eq_ofNat_of_zero_le (Int.le_of_lt h0)
  obtain ⟨r, P', hr, hP', h⟩ := draw_ok hn hP many (by omega) ((sm_of 61 (by omega)).mono (by decide))
  exact ⟨r, P', by omega, hP', h⟩
theorem pow_ten : opPow (.int 10) (.int 18) = some (.d (.int 1000000000000000000)) := by simp
theorem range_ok {t : Nat} (ht : t < 1000) : iRange1 [.int (t : Nat)] = some ((List.range t).map fun i => .int (0 + (i : Nat))) := by
  have ht' : (t : Int) < 4611686018427387904 := by omega
  have ht2 : (-4611686018427387904 : Int) ≤ t := by omega
  simp [ht', ht2]

theorem cut63 (ns : List D) (h : ns.length ≤ 63) : cutD ns none (some 63) = ns := by
  have e : cutAt ns.length ns.length (some 63) = ns.length := by
    show (if (63 : Int) < 0 then ((63 : Int) + (ns.length : Int)).toNat else min (63 : Int).toNat ns.length) = ns.length
    rw [if_neg (by decide)]
    show min 63 ns.length = ns.length
    omega
  show (ns.drop 0).take (cutAt ns.length ns.length (some 63) - 0) = ns
  rw [e]
  simp
theorem seed_go {S : D} : ∀ (ns : List Int) (s : Nat) (v : Option SV), (v = none ∨ ∃ y, v = some (.d y)) → s < 2147483647 →
    ∃ (s' : Nat) (y : D), s' < 2147483647 ∧ ∃ v', (v' = none ∨ v' = some (.d y)) ∧ forGo (DL.gName 2) (dSet 1 (dOp2 opMod (dCallB bInt (dCons (dOp2 opAdd (dOp2 opMul (dVar 1) (dC (.int 31))) (dVar 2)) (dNil))) (dC (.int 2147483647)))) (ns.map .int) [some (.d S), some (.d (N s)), v] =
      some (.nx, [some (.d S), some (.d (N s')), v'])
  | [], s, v, hv, hs => by
    rcases hv with rfl | ⟨y, rfl⟩
    · exact ⟨s, .none, hs, none, .inl rfl, by simp [forGo_nil]⟩
    · exact ⟨s, y, hs, _, .inr rfl, by simp [forGo_nil]⟩
  | n :: r, s, v, hv, hs => by
    have h0 : 0 ≤ ((s : Int) * 31 + n) % 2147483647 := Int.emod_nonneg _ (by decide)
    have h1 : ((s : Int) * 31 + n) % 2147483647 < 2147483647 := Int.emod_lt_of_pos _ (by decide)
    obtain ⟨s2, e⟩ := Int.eq_ofNat_of_zero_le h0
    obtain ⟨s', y, hs', v', hv', h⟩ := seed_go (S := S) r s2 (some (.d (.int n))) (.inr ⟨_, rfl⟩) (by omega)
    have hl : s.log2 + Nat.log2 31 < 1000000 := by
      have h1 := (sm_of (a := s) 31 (by omega)).log
      have h2 := (sm_of (a := 31) 5 (by decide)).log
      omega
    refine ⟨s', y, hs', v', hv', ?_⟩
    rw [List.map_cons, forGo_cons]
    rcases hv with rfl | ⟨z, rfl⟩ <;> simp [hl, e, h]
theorem cells_go {S s : D} : ∀ (ns : List Int), ∃ cells : List Nat, lcGo (DL.gName 2) (dTest (dOp2 opGe (dVar 2) (dOp2 opPow (dC (.int 10)) (dC (.int 18))))) (dVar 2) [2] (ns.map .int) [some (.d S), some (.d s), none] = some (cells.map N, [some (.d S), some (.d s), none])
  | [] => ⟨[], by simp [lcGo_nil]⟩
  | n :: r => by
    obtain ⟨cells, h⟩ := cells_go (S := S) (s := s) r
    by_cases c : (1000000000000000000 : Int) ≤ n
    · obtain ⟨m, rfl⟩ := Int.eq_ofNat_of_zero_le (Int.le_trans (by decide) c)
      refine ⟨m :: cells, ?_⟩
      rw [List.map_cons, lcGo_cons]
      simp [pow_ten, -opPow_ii, c, h]
    · refine ⟨cells, ?_⟩
      rw [List.map_cons, lcGo_cons]
      simp [pow_ten, -opPow_ii, c, h]
theorem purse_ok (ns : List Int) (hn : ns.length ≤ 63) : ∃ P, Purse 0 P ∧ m__law_purse [.d (.list (ns.map .int))] = some (.own P, []) := by
  obtain ⟨s, y, hs, v, hv, h⟩ := seed_go (S := .list (ns.map .int)) ns 7 none (.inl rfl) (by decide)
  obtain ⟨cells, h2⟩ := cells_go (S := .list (ns.map .int)) (s := N s) ns
  have h3 := cut63 (ns.map .int) (by simpa using hn)
  have hl : ns.length ≤ 16777216 := by omega
  refine ⟨purse cells 0 0 0 s, ⟨cells, 0, 0, 0, s, rfl, Nat.zero_le _, Nat.le_refl _, hs⟩, ?_⟩
  simp [N] at h
  rcases hv with rfl | rfl <;> simp [m__law_purse, g__law_purse, run_ap, startD, DL.sizeLine_eq, h3, h, h2, hl, purse]

end P
end

section
set_option linter.all false
namespace DL
open PySem
section
variable {α : Type} {g : DG} {t : DT} {e : DE} {b : DS} {vs : List Nat}
/-- a comprehension over mapped things that touches nothing but its own slots -/
theorem lc_mapA (h : α → D) (F : α → Option D) : ∀ {l : List α} {st : DSt}, (∀ a ∈ l, okP (g (h a) st) fun s1 => okP (t s1) fun p => (p.1 = false ∧ F a = none ∧ wipeD p.2 vs = st) ∨ (p.1 = true ∧ okP (e p.2) fun q => okP (toD q.2 q.1) fun r => F a = some r.1 ∧ wipeD r.2 vs = st)) →
    lcGo g t e vs (l.map h) st = some (l.filterMap F, st)
  | [], st, _ => by rw [List.map_nil, lcGo_nil, List.filterMap_nil]
  | x :: xs, st, H => by
    have ih := lc_mapA h F (l := xs) (st := st) fun y hy => H y (List.mem_cons_of_mem _ hy)
    obtain ⟨s1, e1, ⟨p1, p2⟩, e2, h2⟩ := H x List.mem_cons_self
    rw [List.map_cons, lcGo_cons, e1, List.filterMap_cons]
    show obind (t s1) (kLcTurnT g t e vs (xs.map h)) = _
    rw [e2]
    rcases h2 with ⟨h3, h4, h5⟩ | ⟨h3, ⟨q1, q2⟩, e3, ⟨r1, r2⟩, e4, h4, h5⟩
    · subst h3
      have h5 : wipeD p2 vs = st := h5
      show lcGo g t e vs (xs.map h) (wipeD p2 vs) = _
      rw [h5, ih, h4]
    · subst h3
      show obind (e p2) (kLcTurnD g t e vs (xs.map h)) = _
      have e3 : e p2 = some (q1, q2) := e3
      rw [e3]
      show obind (toD q2 q1) (kLcTurnE g t e vs (xs.map h)) = _
      have e4 : toD q2 q1 = some (r1, r2) := e4
      rw [e4]
      show obind (lcGo g t e vs (xs.map h) (wipeD r2 vs)) (kPush r1) = _
      have h5 : wipeD r2 vs = st := h5
      rw [h5, ih, h4]
      rfl
/-- the same, without tests: each gives one -/
theorem lc_mapE (h : α → D) (F : α → D) {l : List α} {st : DSt} (H : ∀ a ∈ l, okP (g (h a) st) fun s1 => okP (t s1) fun p => p.1 = true ∧ okP (e p.2) fun q => okP (toD q.2 q.1) fun r => F a = r.1 ∧ wipeD r.2 vs = st) :
    lcGo g t e vs (l.map h) st = some (l.map F, st) := by
  rw [lc_mapA h (fun a => some (F a)) fun a ha => ?_]
  · show some (l.filterMap (some ∘ F), st) = _
    rw [List.filterMap_eq_map]
  · refine (H a ha).mono fun s1 h1 => h1.mono fun p ⟨h2, h3⟩ => .inr ⟨h2, h3.mono fun q h4 => h4.mono fun r ⟨h5, h6⟩ => ⟨by rw [h5], h6⟩⟩
/-- a test picks -/
theorem lc_filter (h : α → D) (p : α → Bool) {l : List α} {st : DSt} (H : ∀ a ∈ l, okP (g (h a) st) fun s1 => okP (t s1) fun q => (q.1 = false ∧ p a = false ∧ wipeD q.2 vs = st) ∨ (q.1 = true ∧ p a = true ∧ okP (e q.2) fun q => okP (toD q.2 q.1) fun r => r.1 = h a ∧ wipeD r.2 vs = st)) :
    lcGo g t e vs (l.map h) st = some ((l.filter p).map h, st) := by
  rw [lc_mapA h (fun a => if p a = true then some (h a) else none) fun a ha => ?_]
  · congr 2
    clear H
    induction l with
    | nil => rfl
    | cons x r ih => by_cases c : p x = true <;> simp [c, ih]
  · refine (H a ha).mono fun s1 h1 => h1.mono fun q h2 => ?_
    rcases h2 with ⟨h3, h4, h5⟩ | ⟨h3, h4, h5⟩
    · exact .inl ⟨h3, by simp [h4], h5⟩
    · exact .inr ⟨h3, h5.mono fun q h6 => h6.mono fun r ⟨h7, h8⟩ => ⟨by simp [h4, h7], h8⟩⟩
/-- a loop over mapped things -/
theorem for_list (h : α → D) (I : List α → DSt → Prop) {Q : Fl × DSt → Prop} : ∀ {l : List α} {st : DSt}, I l st →
    (∀ a r s, I (a :: r) s → okP (g (h a) s) fun s1 => okP (b s1) fun p => (p.1 = .nx ∨ p.1 = .ct) ∧ I r p.2) → (∀ s, I [] s → Q (.nx, s)) → okP (forGo g b (l.map h) st) Q
  | [], st, h0, _, hk => by
    rw [List.map_nil, forGo_nil, okP_some]
    exact hk st h0
  | x :: xs, st, h0, hs, hk => by
    rw [List.map_cons, forGo_cons, okP_obind]
    refine (hs x xs st h0).mono fun s1 h1 => ?_
    show okP (obind (b s1) (kForb g b (xs.map h))) Q
    rw [okP_obind]
    refine h1.mono fun p ⟨h2, h3⟩ => ?_
    have := for_list h I (Q := Q) h3 hs hk
    rcases p with ⟨p1, p2⟩
    rcases h2 with rfl | rfl
    · exact this
    · exact this
/-- a loop that may hand back -/
theorem for_ret (h : α → D) (I : List α → DSt → Prop) {Q : Fl × DSt → Prop} : ∀ {l : List α} {st : DSt}, I l st →
    (∀ a r s, I (a :: r) s → okP (g (h a) s) fun s1 => okP (b s1) fun p => ((p.1 = .nx ∨ p.1 = .ct) ∧ I r p.2) ∨ ((∃ x, p.1 = .rt x) ∧ Q p)) → (∀ s, I [] s → Q (.nx, s)) → okP (forGo g b (l.map h) st) Q
  | [], st, h0, _, hk => by
    rw [List.map_nil, forGo_nil, okP_some]
    exact hk st h0
  | x :: xs, st, h0, hs, hk => by
    rw [List.map_cons, forGo_cons, okP_obind]
    refine (hs x xs st h0).mono fun s1 h1 => ?_
    show okP (obind (b s1) (kForb g b (xs.map h))) Q
    rw [okP_obind]
    refine h1.mono fun p h2 => ?_
    rcases p with ⟨p1, p2⟩
    rcases h2 with ⟨h2, h3⟩ | ⟨⟨x, h2⟩, h3⟩
    · have := for_ret h I (Q := Q) h3 hs hk
      rcases h2 with rfl | rfl
      · exact this
      · exact this
    · have h2 : p1 = .rt x := h2
      subst h2
      exact ⟨_, rfl, h3⟩
/-- a comprehension whose turns change the rest: each gives one -/
theorem lc_list (h : α → D) (I : List α → DSt → Prop) (P : α → D → Prop) : ∀ {l : List α} {st : DSt} {Q : List D × DSt → Prop}, I l st →
    (∀ a r s, I (a :: r) s → okP (g (h a) s) fun s1 => okP (t s1) fun p => p.1 = true ∧ okP (e p.2) fun q => okP (toD q.2 q.1) fun r2 => P a r2.1 ∧ I r (wipeD r2.2 vs)) →
    (∀ ys s, ys.length = l.length → (∀ (i : Nat) (a : α) (y : D), l[i]? = some a → ys[i]? = some y → P a y) → I [] s → Q (ys, s)) → okP (lcGo g t e vs (l.map h) st) Q
  | [], st, Q, h0, _, hk => by
    rw [List.map_nil, lcGo_nil, okP_some]
    exact hk [] st rfl (fun i a y e _ => by simp at e) h0
  | x :: xs, st, Q, h0, hs, hk => by
    rw [List.map_cons, lcGo_cons, okP_obind]
    refine (hs x xs st h0).mono fun s1 h1 => ?_
    show okP (obind (t s1) (kLcTurnT g t e vs (xs.map h))) Q
    rw [okP_obind]
    refine h1.mono fun p ⟨h2, h3⟩ => ?_
    rcases p with ⟨p1, p2⟩
    subst h2
    show okP (obind (e p2) (kLcTurnD g t e vs (xs.map h))) Q
    rw [okP_obind]
    refine h3.mono fun q h4 => ?_
    rcases q with ⟨q1, q2⟩
    show okP (obind (toD q2 q1) (kLcTurnE g t e vs (xs.map h))) Q
    rw [okP_obind]
    refine h4.mono fun r ⟨h5, h6⟩ => ?_
    rcases r with ⟨r1, r2⟩
    show okP (obind (lcGo g t e vs (xs.map h) (wipeD r2 vs)) (kPush r1)) Q
    rw [okP_obind]
    refine lc_list h I P h6 hs fun ys s l hp hi => ?_
    show okP (some (r1 :: ys, s)) Q
    rw [okP_some]
    refine hk _ _ (by simp [l]) (fun i a y e1 e2 => ?_) hi
    cases i with
    | zero =>
      simp at e1 e2
      subst e1
      subst e2
      exact h5
    | succ i => exact hp i a y (by simpa using e1) (by simpa using e2)
/-- a loop over things of a kind -/
theorem for_items {Pr : D → Prop} (I : List D → DSt → Prop) {Q : Fl × DSt → Prop} : ∀ {l : List D} {st : DSt}, (∀ a ∈ l, Pr a) → I l st →
    (∀ a r s, Pr a → I (a :: r) s → okP (g a s) fun s1 => okP (b s1) fun p => (p.1 = .nx ∨ p.1 = .ct) ∧ I r p.2) → (∀ s, I [] s → Q (.nx, s)) → okP (forGo g b l st) Q
  | [], st, _, h0, _, hk => by
    rw [forGo_nil, okP_some]
    exact hk st h0
  | x :: xs, st, hp, h0, hs, hk => by
    rw [forGo_cons, okP_obind]
    refine (hs x xs st (hp x (by simp)) h0).mono fun s1 h1 => ?_
    show okP (obind (b s1) (kForb g b xs)) Q
    rw [okP_obind]
    refine h1.mono fun p ⟨h2, h3⟩ => ?_
    have := for_items I (Q := Q) (fun a ha => hp a (by simp [ha])) h3 hs hk
    rcases p with ⟨p1, p2⟩
    rcases h2 with rfl | rfl
    · exact this
    · exact this
end
end DL
namespace P
open PySem DL
theorem map_range {α β : Type} (d : α) (f : α → β) (ts : List α) : ts.map f = (List.range ts.length).map fun i => f (ts.getD i d) := by
  apply List.ext_getElem
  · simp
  · intro i h1 h2
    have : i < ts.length := by simpa using h1
    simp [List.getD_eq_getElem?_getD, List.getElem?_eq_getElem this]
theorem zip_range {α β γ : Type} (f : α → β) (g : α → γ) (l : List α) : (l.map f).zip (l.map g) = l.map fun a => (f a, g a) := by
  induction l with
  | nil => rfl
  | cons x r ih => simp [ih]
theorem enum_range {α : Type} (f : α → D) (l : List α) : ((l.map f).zipIdx).map (fun p => PyData.tuple [.int (p.2 : Nat), p.1]) = l.zipIdx.map fun p => PyData.tuple [.int (p.2 : Nat), f p.1] := by
  rw [List.zipIdx_map, List.map_map]
  rfl
theorem zipIdx_range (n : Nat) : (List.range n).zipIdx = (List.range n).map fun i => (i, i) := by
  apply List.ext_getElem
  · simp
  · intro i h1 h2
    simp
end P
end

section
set_option linter.all false
namespace P
open PySem DL
/-! ## equal data without bools -/
mutual
def intd : D → Bool
  | .none => true
  | .int _ => true
  | .str _ => true
  | .list xs => intdAll xs
  | .tuple xs => intdAll xs
  | _ => false
def intdAll : List D → Bool
  | [] => true
  | x :: r => intd x && intdAll r
end
mutual
theorem eqv_iff : ∀ x y : D, intd x = true → intd y = true → (PyData.eqv x y = true ↔ x = y)
  | .none, y, _, h => by cases y <;> simp [PyData.eqv] <;> simp [intd] at h
  | .int i, y, _, h => by cases y <;> simp [PyData.eqv] <;> simp [intd] at h
  | .str i, y, _, h => by cases y <;> simp [PyData.eqv] <;> simp [intd] at h
  | .list xs, y, h1, h => by
    cases y <;> simp [PyData.eqv] <;> simp [intd] at h
    exact eqvAll_iff xs _ (by simpa [intd] using h1) h
  | .tuple xs, y, h1, h => by
    cases y <;> simp [PyData.eqv] <;> simp [intd] at h
    exact eqvAll_iff xs _ (by simpa [intd] using h1) h
  | .bool _, _, h, _ => by simp [intd] at h
  | .dict _, _, h, _ => by simp [intd] at h
theorem eqvAll_iff : ∀ xs ys : List D, intdAll xs = true → intdAll ys = true → (PyData.eqvAll xs ys = true ↔ xs = ys)
  | [], ys, _, _ => by cases ys <;> simp [PyData.eqvAll]
  | x :: r, [], _, _ => by simp [PyData.eqvAll]
  | x :: r, y :: s, h1, h2 => by
    simp only [intdAll, Bool.and_eq_true] at h1 h2
    simp [PyData.eqvAll, eqv_iff x y h1.1 h2.1, eqvAll_iff r s h1.2 h2.2]
end
mutual
theorem intd_plain : ∀ x : D, intd x = true → x.plain = true
  | .none, _ => by simp [PyData.plain]
  | .int _, _ => by simp [PyData.plain]
  | .str _, _ => by simp [PyData.plain]
  | .list xs, h => by simpa [PyData.plain] using intd_plainAll xs (by simpa [intd] using h)
  | .tuple xs, h => by simpa [PyData.plain] using intd_plainAll xs (by simpa [intd] using h)
  | .bool _, h => by simp [intd] at h
  | .dict _, h => by simp [intd] at h
theorem intd_plainAll : ∀ xs : List D, intdAll xs = true → PyData.plainAll xs = true
  | [], _ => by simp [PyData.plainAll]
  | x :: r, h => by
    simp only [intdAll, Bool.and_eq_true] at h
    simp [PyData.plainAll, intd_plain x h.1, intd_plainAll r h.2]
end
theorem intd_map {α : Type} {f : α → D} : ∀ {l : List α}, (∀ a ∈ l, intd (f a) = true) → intdAll (l.map f) = true
  | [], _ => rfl
  | x :: r, h => by
    simp only [List.map_cons, intdAll, Bool.and_eq_true]
    exact ⟨h x (by simp), intd_map fun a ha => h a (by simp [ha])⟩
theorem depth_map {α : Type} {f : α → D} {n : Nat} : ∀ {l : List α}, (∀ a ∈ l, (f a).depth ≤ n) → PyData.depthAll (l.map f) ≤ n
  | [], _ => by simp [PyData.depthAll]
  | x :: r, h => by
    have := depth_map (n := n) (l := r) fun a ha => h a (by simp [ha])
    have := h x (by simp)
    simp only [List.map_cons, PyData.depthAll]
    omega
theorem intd_eq {x y : D} (h1 : intd x = true) (h2 : intd y = true) (d1 : x.depth ≤ 64) (d2 : y.depth ≤ 64) {b : Bool} (hb : b = true ↔ x = y) : opEq x y = some (.d (.bool b)) ∧ opNe x y = some (.d (.bool (!b))) := by
  have f1 : flat x = true := by simp [flat, intd_plain x h1, d1]
  have f2 : flat y = true := by simp [flat, intd_plain y h2, d2]
  have e : PyData.eqv x y = b := by
    rw [Bool.eq_iff_iff, eqv_iff x y h1 h2, hb]
  simp [opEq, opNe, f1, f2, e]
theorem Q_intd (r : Rat) : intd (Q r) = true ∧ (Q r).depth = 1 := by simp [Q, intd, intdAll, PyData.depth, PyData.depthAll]
theorem N_intd (k : Nat) : intd (N k) = true ∧ (N k).depth = 0 := by simp [intd, PyData.depth]
theorem Q_eq (r s : Rat) : opEq (Q r) (Q s) = some (.d (.bool (decide (r = s)))) ∧ opNe (Q r) (Q s) = some (.d (.bool (!decide (r = s)))) :=
  intd_eq (Q_intd r).1 (Q_intd s).1 (by rw [(Q_intd r).2]; decide) (by rw [(Q_intd s).2]; decide) (by simp only [decide_eq_true_eq]; exact ⟨fun h => by rw [h], Q_inj⟩)
theorem tab_inj {ts us : List Nat} (h : tab ts = tab us) : ts = us := by
  have : Ns ts = Ns us := by simpa using h
  unfold Ns at this
  exact List.map_inj_right (fun a b e => by simp only [PyData.int.injEq] at e; omega) |>.mp this
theorem tab_intd (ts : List Nat) : intd (tab ts) = true ∧ (tab ts).depth ≤ 1 := by
  constructor
  · show intdAll (Ns ts) = true
    exact intd_map fun a _ => (N_intd a).1
  · have : PyData.depthAll (Ns ts) ≤ 0 := depth_map fun a _ => by rw [(N_intd a).2]; decide
    simp [PyData.depth]
    omega
theorem tab_eq (ts us : List Nat) : opEq (tab ts) (tab us) = some (.d (.bool (decide (ts = us)))) ∧ opNe (tab ts) (tab us) = some (.d (.bool (!decide (ts = us)))) :=
  intd_eq (tab_intd ts).1 (tab_intd us).1 (Nat.le_trans (tab_intd ts).2 (by decide)) (Nat.le_trans (tab_intd us).2 (by decide)) (by simp only [decide_eq_true_eq]; exact ⟨fun h => by rw [h], tab_inj⟩)
def Qs (rs : List Rat) : D := .list (rs.map Q)
theorem Qs_inj {rs ss : List Rat} (h : Qs rs = Qs ss) : rs = ss := by
  have : rs.map Q = ss.map Q := by simpa [Qs] using h
  exact List.map_inj_right (fun a b e => Q_inj e) |>.mp this
theorem Qs_eq (rs ss : List Rat) : opEq (Qs rs) (Qs ss) = some (.d (.bool (decide (rs = ss)))) ∧ opNe (Qs rs) (Qs ss) = some (.d (.bool (!decide (rs = ss)))) := by
  have i : ∀ l : List Rat, intd (Qs l) = true ∧ (Qs l).depth ≤ 2 := fun l => by
    constructor
    · show intdAll (l.map Q) = true
      exact intd_map fun a _ => (Q_intd a).1
    · have : PyData.depthAll (l.map Q) ≤ 1 := depth_map fun a _ => by rw [(Q_intd a).2]; decide
      simp [Qs, PyData.depth]
      omega
  exact intd_eq (i rs).1 (i ss).1 (Nat.le_trans (i rs).2 (by decide)) (Nat.le_trans (i ss).2 (by decide)) (by simp only [decide_eq_true_eq]; exact ⟨fun h => by rw [h], Qs_inj⟩)
/-! ## odds of a table -/
theorem sh_div (ts : List Nat) (t : Nat) : sh ts t = (t : Rat) / (ts.sum : Rat) := by
  unfold sh
  rw [Rat.mkRat_eq_div]
  rfl
theorem sh_sum (ts : List Nat) : ∀ us : List Nat, (us.map (sh ts)).sum = sh ts us.sum
  | [] => by
    rw [sh_div]
    show (0 : Rat) = ((0 : Nat) : Rat) / _
    have : ((0 : Nat) : Rat) = 0 := rfl
    rw [this]
    grind
  | u :: r => by
    rw [List.map_cons, List.sum_cons, sh_sum ts r, List.sum_cons, sh_div, sh_div, sh_div]
    have : ((u + r.sum : Nat) : Rat) = (u : Rat) + (r.sum : Rat) := by simp [Rat.natCast_add]
    rw [this]
    grind
theorem sh_one {ts : List Nat} (h : 0 < ts.sum) : (ts.map (sh ts)).sum = 1 := by
  rw [sh_sum, sh_div]
  have : (ts.sum : Rat) ≠ 0 := by
    intro z
    have : ts.sum = 0 := by exact_mod_cast z
    omega
  grind
theorem sh_inj {ts us : List Nat} (h : 0 < ts.sum) (h' : 0 < us.sum) (a b : Nat) : sh ts a = sh us b ↔ a * us.sum = b * ts.sum := by
  unfold sh
  rw [Rat.mkRat_eq_iff (by omega) (by omega)]
  constructor
  · intro z; exact_mod_cast z
  · intro z; exact_mod_cast z
theorem gall_mul (k : Nat) : ∀ (ts : List Nat) (g : Nat), gall (ts.map (· * k)) (g * k) = gall ts g * k
  | [], g => rfl
  | t :: r, g => by
    rw [List.map_cons, gall, Nat.gcd_mul_right, gall_mul k r, gall]
theorem gg_mul (k : Nat) (ts : List Nat) : gg (ts.map (· * k)) = gg ts * k := by
  have := gall_mul k ts 0
  rw [Nat.zero_mul] at this
  exact this
theorem lw_mul {ts : List Nat} {k : Nat} (hk : 0 < k) : lw (ts.map (· * k)) = lw ts := by
  unfold lw
  rw [gg_mul, List.map_map]
  congr 1
  funext t
  exact Nat.mul_div_mul_right _ _ hk
theorem lw_back {ts : List Nat} (h : 0 < ts.sum) : ts = (lw ts).map (· * gg ts) := by
  unfold lw
  rw [List.map_map]
  conv => lhs; rw [← List.map_id ts]
  apply List.map_congr_left
  intro t ht
  exact (Nat.div_mul_cancel ((gall_dvd ts 0).2 t ht)).symm
theorem sum_mul (k : Nat) : ∀ ts : List Nat, (ts.map (· * k)).sum = ts.sum * k
  | [] => by simp
  | t :: r => by
    rw [List.map_cons, List.sum_cons, sum_mul k r, List.sum_cons, Nat.add_mul]
theorem map_mul_len (k : Nat) (ts : List Nat) : (ts.map (· * k)).length = ts.length := by simp
/-- like tables have the same odds -/
theorem like_iff {ts us : List Nat} (h : 0 < ts.sum) (h' : 0 < us.sum) : lw ts = lw us ↔ ts.map (sh ts) = us.map (sh us) := by
  constructor
  · intro e
    have e1 := lw_back h
    have e2 := lw_back h'
    have g1 := gg_pos h
    have g2 := gg_pos h'
    have key : ∀ {vs : List Nat} (hv : 0 < vs.sum), vs.map (sh vs) = (lw vs).map (sh (lw vs)) := fun {vs} hv => by
      have ev := lw_back hv
      have es : vs.sum = (lw vs).sum * gg vs := by
        conv => lhs; rw [ev]
        exact sum_mul _ _
      have hl : 0 < (lw vs).sum := by
        apply Classical.byContradiction
        intro z
        rw [Nat.eq_zero_of_not_pos z, Nat.zero_mul] at es
        omega
      conv => lhs; rw [show vs.map (sh vs) = ((lw vs).map (· * gg vs)).map (sh vs) by rw [← ev]]
      rw [List.map_map]
      apply List.map_congr_left
      intro t _
      show sh vs (t * gg vs) = sh (lw vs) t
      rw [sh_inj hv hl, es, Nat.mul_assoc, Nat.mul_comm (gg vs)]
    rw [key h, key h', e]
  · intro e
    have hl : ts.length = us.length := by
      have := congrArg List.length e
      simpa using this
    have e2 : ts.map (· * us.sum) = us.map (· * ts.sum) := by
      apply List.ext_getElem
      · simp [hl]
      · intro i h1 h2
        have i1 : i < ts.length := by simpa using h1
        have i2 : i < us.length := by simpa using h2
        have := congrArg (fun l => l[i]?) e
        simp only [List.getElem?_map, List.getElem?_eq_getElem i1, List.getElem?_eq_getElem i2, Option.map_some, Option.some.injEq] at this
        simp only [List.getElem_map]
        exact (sh_inj h h' _ _).mp this
    rw [← lw_mul (ts := ts) h', ← lw_mul (ts := us) h, e2]
theorem like_ok {ts us : List Nat} (hl : ts.length ≤ 1000000) (h0 : 0 < ts.sum) (hT : Sm 8000 ts.sum) (hl' : us.length ≤ 1000000) (h0' : 0 < us.sum) (hT' : Sm 8000 us.sum) :
    m_like [.d (tab ts), .d (tab us)] = some (.d (.bool (decide (lw ts = lw us))), []) := by
  simp [m_like, g_like, run_ap, startD, look_table_ok ts hl h0, look_table_ok us hl' h0', lowered_ok hl h0 hT, lowered_ok hl' h0' hT', (tab_eq (lw ts) (lw us)).1]
/-! ## lists of numbers that were drawn -/
theorem Purse.up {n m : Nat} {P : List D} (h : Purse n P) (hm : n ≤ m) : Purse m P := by
  obtain ⟨cells, ix, cur, cnt, seed, rfl, hi, hc, hs⟩ := h
  exact ⟨cells, ix, cur, cnt, seed, rfl, hi, by omega, hs⟩
theorem of_N (M : Nat) : ∀ (ys : List D), (∀ y ∈ ys, ∃ k : Nat, y = N k ∧ k ≤ M) → ∃ ts : List Nat, ys = Ns ts ∧ ts.length = ys.length ∧ ∀ t ∈ ts, t ≤ M
  | [], _ => ⟨[], rfl, rfl, fun t ht => by simp at ht⟩
  | y :: r, h => by
    obtain ⟨k, rfl, hk⟩ := h y (by simp)
    obtain ⟨ts, e, l, b⟩ := of_N M r fun z hz => h z (by simp [hz])
    refine ⟨k :: ts, by rw [e]; rfl, by simp [l], fun t ht => ?_⟩
    rcases List.mem_cons.mp ht with rfl | ht
    · exact hk
    · exact b t ht
theorem set_Ns (ts : List Nat) (i k : Nat) : (Ns ts).set i (N k) = Ns (ts.set i k) := by simp [Ns, List.map_set]
theorem sum_set : ∀ (ts : List Nat) (i k : Nat), i < ts.length → 0 < k → 0 < (ts.set i k).sum
  | [], i, k, h, _ => by simp at h
  | x :: r, 0, k, h, hk => by simp; omega
  | x :: r, i + 1, k, h, hk => by
    have := sum_set r i k (by simpa using h) hk
    simp
    omega
theorem of_items {l : List α} {ys : List D} {Pr : D → Prop} (hl : ys.length = l.length) (h : ∀ (i : Nat) (a : α) (y : D), l[i]? = some a → ys[i]? = some y → Pr y) : ∀ y ∈ ys, Pr y := fun y hy => by
  obtain ⟨i, hi⟩ := List.mem_iff_getElem?.mp hy
  have h1 := (List.getElem?_eq_some_iff.mp hi).1
  exact h i (l[i]'(by omega)) y (List.getElem?_eq_getElem (by omega)) hi
end P
end

section
set_option linter.all false
namespace K30
open PySem DL
noncomputable def g_is_count : DS := dRet (dAndV (dOp1 (bIsi "int") (dVar 0)) (dAndV (dNotV (dOp1 (bIsi "bool") (dVar 0))) (dOp2 opGe (dVar 0) (dVar 1))))
noncomputable def m_is_count : Fn := run 2 g_is_count
noncomputable def g_divisor : DS := dSeq (dWhile (dTest (dOp2 opNe (dVar 1) (dC (.int 0)))) (dPar [0, 1] (dCons (dVar 1) (dCons (dOp2 opMod (dVar 0) (dVar 1)) (dNil))))) (dRet (dVar 0))
noncomputable def m_divisor : Fn := run 2 g_divisor
noncomputable def g_is_odds : DS := dSeq (dIfS (dOr (dNot (dTest (dOp1 (bIsi "tuple") (dVar 0)))) (dOr (dTest (dOp2 opNe (dCallB bLen (dCons (dVar 0) (dNil))) (dC (.int 2)))) (dOr (dNot (dTest (dCall m_is_count [false] [PyData.int 0] (dCons (dOp2 opIx (dVar 0) (dC (.int 0))) (dNil))))) (dNot (dTest (dCall m_is_count [false, false] [] (dCons (dOp2 opIx (dVar 0) (dC (.int 1))) (dCons (dC (.int 1)) (dNil))))))))) (dRet (dC (.bool false))) (dNext)) (dRet (dOp2 opEq (dCall m_divisor [false, false] [] (dCons (dOp2 opIx (dVar 0) (dC (.int 0))) (dCons (dOp2 opIx (dVar 0) (dC (.int 1))) (dNil)))) (dC (.int 1))))
noncomputable def m_is_odds : Fn := run 1 g_is_odds
noncomputable def g_by_lowest : DS := dSeq (dSet 2 (dCall m_divisor [false, false] [] (dCons (dVar 0) (dCons (dVar 1) (dNil))))) (dRet (dTup (dCons (dOp2 opDiv (dVar 0) (dVar 2)) (dCons (dOp2 opDiv (dVar 1) (dVar 2)) (dNil)))))
noncomputable def m_by_lowest : Fn := run 3 g_by_lowest
noncomputable def g_odds_of : DS := dSeq (dIfS (dNot (dTest (dCall m_is_count [false] [PyData.int 0] (dCons (dVar 0) (dNil))))) (dNever) (dNext)) (dSeq (dIfS (dNot (dTest (dCall m_is_count [false, false] [] (dCons (dVar 1) (dCons (dC (.int 1)) (dNil)))))) (dNever) (dNext)) (dRet (dCall m_by_lowest [false, false] [] (dCons (dVar 0) (dCons (dVar 1) (dNil))))))
noncomputable def m_odds_of : Fn := run 2 g_odds_of
noncomputable def g_put_together : DS := dRet (dCall m_by_lowest [false, false] [] (dCons (dOp2 opAdd (dOp2 opMul (dOp2 opIx (dVar 0) (dC (.int 0))) (dOp2 opIx (dVar 1) (dC (.int 1)))) (dOp2 opMul (dOp2 opIx (dVar 1) (dC (.int 0))) (dOp2 opIx (dVar 0) (dC (.int 1))))) (dCons (dOp2 opMul (dOp2 opIx (dVar 0) (dC (.int 1))) (dOp2 opIx (dVar 1) (dC (.int 1)))) (dNil))))
noncomputable def m_put_together : Fn := run 2 g_put_together
noncomputable def g_is_below : DS := dRet (dOp2 opLt (dOp2 opMul (dOp2 opIx (dVar 0) (dC (.int 0))) (dOp2 opIx (dVar 1) (dC (.int 1)))) (dOp2 opMul (dOp2 opIx (dVar 1) (dC (.int 0))) (dOp2 opIx (dVar 0) (dC (.int 1)))))
noncomputable def m_is_below : Fn := run 2 g_is_below
noncomputable def g_total : DS := dSeq (dSet 1 (dTup (dCons (dC (.int 0)) (dCons (dC (.int 1)) (dNil))))) (dSeq (dFor (dIter DL.iSeq (dVar 0)) (DL.gName 2) (dSet 1 (dCall m_put_together [false, false] [] (dCons (dVar 1) (dCons (dVar 2) (dNil)))))) (dRet (dVar 1)))
noncomputable def m_total : Fn := run 3 g_total
noncomputable def g_are_counts : DS := dRet (dAndV (dOp1 (bIsi "list") (dVar 0)) (dCallB bAll (dCons (dLc (dIter DL.iSeq (dVar 0)) (DL.gName 1) (dTests) (dCall m_is_count [false] [PyData.int 0] (dCons (dVar 1) (dNil))) [1]) (dNil))))
noncomputable def m_are_counts : Fn := run 2 g_are_counts
noncomputable def g_is_table : DS := dRet (dAndV (dCall m_are_counts [false] [] (dCons (dVar 0) (dNil))) (dOp2 opGt (dCallB bSum (dCons (dVar 0) (dNil))) (dC (.int 0))))
noncomputable def m_is_table : Fn := run 1 g_is_table
noncomputable def g_look_at_table : DS := dIfS (dNot (dTest (dCall m_is_table [false] [] (dCons (dVar 0) (dNil))))) (dNever) (dNext)
noncomputable def m_look_at_table : Fn := run 1 g_look_at_table
noncomputable def g_look_at_two : DS := dSeq (dDrop (dCall m_look_at_table [false] [] (dCons (dVar 0) (dNil)))) (dIfS (dOr (dNot (dTest (dCall m_is_table [false] [] (dCons (dVar 1) (dNil))))) (dTest (dOp2 opNe (dCallB bLen (dCons (dVar 1) (dNil))) (dCallB bLen (dCons (dVar 0) (dNil)))))) (dNever) (dNext))
noncomputable def m_look_at_two : Fn := run 2 g_look_at_two
noncomputable def g_odds_in : DS := dRet (dLc (dIter DL.iSeq (dVar 0)) (DL.gName 1) (dTests) (dCall m_by_lowest [false, false] [] (dCons (dVar 1) (dCons (dCallB bSum (dCons (dVar 0) (dNil))) (dNil)))) [1])
noncomputable def m_odds_in : Fn := run 2 g_odds_in
noncomputable def g_common_odds : DS := dZipRet 2 (dCons (dCall m_odds_in [false] [] (dCons (dVar 0) (dNil))) (dCons (dCall m_odds_in [false] [] (dCons (dVar 1) (dNil))) (dNil))) (DL.gTup 2 (DL.gCons (DL.gName 3) (DL.gCons (DL.gName 4) (DL.gNil)))) (dTests) (dIf (dTest (dCall m_is_below [false, false] [] (dCons (dVar 3) (dCons (dVar 4) (dNil))))) (dVar 3) (dVar 4)) [3, 4]
noncomputable def m_common_odds : Fn := run 5 g_common_odds
noncomputable def g_overlap : DS := dSeq (dDrop (dCall m_look_at_two [false, false] [] (dCons (dVar 0) (dCons (dVar 1) (dNil))))) (dRet (dCall m_total [false] [] (dCons (dCall m_common_odds [false, false] [] (dCons (dVar 0) (dCons (dVar 1) (dNil)))) (dNil))))
noncomputable def m_overlap : Fn := run 2 g_overlap
noncomputable def g_is_draw : DS := dRet (dAndV (dCall m_is_odds [false] [] (dCons (dVar 0) (dNil))) (dOp2 opLt (dOp2 opIx (dVar 0) (dC (.int 0))) (dOp2 opIx (dVar 0) (dC (.int 1)))))
noncomputable def m_is_draw : Fn := run 1 g_is_draw
noncomputable def g_check_table : DS := dIfS (dNot (dTest (dCall m_is_table [false] [] (dCons (dVar 0) (dNil))))) (dNever) (dNext)
noncomputable def m_check_table : Fn := run 1 g_check_table
noncomputable def g_check_draw : DS := dIfS (dNot (dTest (dCall m_is_draw [false] [] (dCons (dVar 0) (dNil))))) (dNever) (dNext)
noncomputable def m_check_draw : Fn := run 1 g_check_draw
noncomputable def g_place_given : DS := dSeq (dAsg (DL.gTup 2 (DL.gCons (DL.gName 2) (DL.gCons (DL.gName 3) (DL.gNil)))) (dVar 1)) (dSeq (dPar [4, 5] (dCons (dOp2 opMul (dVar 2) (dCallB bSum (dCons (dVar 0) (dNil)))) (dCons (dC (.int 0)) (dNil)))) (dSeq (dFor (dIterA DL.iEnum (dCons (dVar 0) (dNil))) (DL.gTup 2 (DL.gCons (DL.gName 6) (DL.gCons (DL.gName 7) (DL.gNil)))) (dSeq (dAug opAddI 5 (dVar 7)) (dIfS (dTest (dOp2 opGt (dOp2 opMul (dVar 5) (dVar 3)) (dVar 4))) (dRet (dVar 6)) (dNext)))) (dRet (dC .none))))
noncomputable def m_place_given : Fn := run 8 g_place_given
noncomputable def g_place_drawn : DS := dSeq (dDrop (dCall m_check_table [false] [] (dCons (dVar 0) (dNil)))) (dSeq (dDrop (dCall m_check_draw [false] [] (dCons (dVar 1) (dNil)))) (dRet (dCall m_place_given [false, false] [] (dCons (dVar 0) (dCons (dVar 1) (dNil))))))
noncomputable def m_place_drawn : Fn := run 2 g_place_drawn
noncomputable def g_shortest_draw : DS := dSeq (dFor (dIter DL.iSeq (dTup (dCons (dVar 0) (dCons (dVar 1) (dNil))))) (DL.gName 2) (dIfS (dOr (dNot (dTest (dCall m_is_odds [false] [] (dCons (dVar 2) (dNil))))) (dTest (dOp2 opGt (dOp2 opIx (dVar 2) (dC (.int 0))) (dOp2 opIx (dVar 2) (dC (.int 1)))))) (dNever) (dNext))) (dSeq (dIfS (dTest (dOp2 opGe (dOp2 opMul (dOp2 opIx (dVar 0) (dC (.int 0))) (dOp2 opIx (dVar 1) (dC (.int 1)))) (dOp2 opMul (dOp2 opIx (dVar 1) (dC (.int 0))) (dOp2 opIx (dVar 0) (dC (.int 1)))))) (dNever) (dNext)) (dSeq (dSet 3 (dC (.int 1))) (dWhile (dTest (dC (.bool true))) (dSeq (dSet 4 (dOp2 opSub (dC (.int 0)) (dOp2 opDiv (dOp2 opSub (dC (.int 0)) (dOp2 opMul (dOp2 opIx (dVar 0) (dC (.int 0))) (dVar 3))) (dOp2 opIx (dVar 0) (dC (.int 1)))))) (dSeq (dIfS (dTest (dOp2 opLt (dOp2 opMul (dVar 4) (dOp2 opIx (dVar 1) (dC (.int 1)))) (dOp2 opMul (dOp2 opIx (dVar 1) (dC (.int 0))) (dVar 3)))) (dRet (dCall m_odds_of [false, false] [] (dCons (dVar 4) (dCons (dVar 3) (dNil))))) (dNext)) (dSet 3 (dOp2 opMul (dVar 3) (dC (.int 2)))))))))
noncomputable def m_shortest_draw : Fn := run 5 g_shortest_draw
noncomputable def g_ends_in : DS := dSeq (dParS 2 [3] (dList (dNil)) (dCons (dC (.int 0)) (dNil))) (dSeq (dFor (dIterA DL.iEnum (dCons (dVar 0) (dNil))) (DL.gTup 2 (DL.gCons (DL.gName 4) (DL.gCons (DL.gName 5) (DL.gNil)))) (dSeq (dIfS (dTest (dOp2 opGt (dVar 5) (dC (.int 0)))) (dAppend 2 (dTup (dCons (dVar 4) (dCons (dOp2 opMul (dVar 3) (dVar 1)) (dCons (dOp2 opMul (dOp2 opAdd (dVar 3) (dVar 5)) (dVar 1)) (dNil)))))) (dNext)) (dAug opAddI 3 (dVar 5)))) (dRet (dVar 2)))
noncomputable def m_ends_in : Fn := run 6 g_ends_in
noncomputable def g_shared_spans : DS := dSeq (dPar [2, 3] (dCons (dCall m_ends_in [false, false] [] (dCons (dVar 0) (dCons (dCallB bSum (dCons (dVar 1) (dNil))) (dNil)))) (dCons (dCall m_ends_in [false, false] [] (dCons (dVar 1) (dCons (dCallB bSum (dCons (dVar 0) (dNil))) (dNil)))) (dNil)))) (dSeq (dParS 4 [5, 6] (dList (dNil)) (dCons (dC (.int 0)) (dCons (dC (.int 0)) (dNil)))) (dSeq (dWhile (dAnd (dTest (dOp2 opLt (dVar 5) (dCallB bLen (dCons (dVar 2) (dNil))))) (dTest (dOp2 opLt (dVar 6) (dCallB bLen (dCons (dVar 3) (dNil)))))) (dSeq (dPar [7, 8] (dCons (dCallB bMax2 (dCons (dOp2 opIx (dOp2 opIx (dVar 2) (dVar 5)) (dC (.int 1))) (dCons (dOp2 opIx (dOp2 opIx (dVar 3) (dVar 6)) (dC (.int 1))) (dNil)))) (dCons (dCallB bMin2 (dCons (dOp2 opIx (dOp2 opIx (dVar 2) (dVar 5)) (dC (.int 2))) (dCons (dOp2 opIx (dOp2 opIx (dVar 3) (dVar 6)) (dC (.int 2))) (dNil)))) (dNil)))) (dSeq (dAppend 4 (dTup (dCons (dVar 7) (dCons (dVar 8) (dCons (dOp2 opIx (dOp2 opIx (dVar 2) (dVar 5)) (dC (.int 0))) (dCons (dOp2 opIx (dOp2 opIx (dVar 3) (dVar 6)) (dC (.int 0))) (dNil))))))) (dSeq (dSet 9 (dTup (dCons (dOp2 opEq (dOp2 opIx (dOp2 opIx (dVar 2) (dVar 5)) (dC (.int 2))) (dVar 8)) (dCons (dOp2 opEq (dOp2 opIx (dOp2 opIx (dVar 3) (dVar 6)) (dC (.int 2))) (dVar 8)) (dNil))))) (dSeq (dAug opAddI 5 (dCallB bInt (dCons (dOp2 opIx (dVar 9) (dC (.int 0))) (dNil)))) (dAug opAddI 6 (dCallB bInt (dCons (dOp2 opIx (dVar 9) (dC (.int 1))) (dNil))))))))) (dRet (dVar 4))))
noncomputable def m_shared_spans : Fn := run 10 g_shared_spans
noncomputable def g_check_tables : DS := dSeq (dDrop (dCall m_check_table [false] [] (dCons (dVar 0) (dNil)))) (dIfS (dOr (dNot (dTest (dCall m_is_table [false] [] (dCons (dVar 1) (dNil))))) (dTest (dOp2 opNe (dCallB bLen (dCons (dVar 1) (dNil))) (dCallB bLen (dCons (dVar 0) (dNil)))))) (dNever) (dNext))
noncomputable def m_check_tables : Fn := run 2 g_check_tables
noncomputable def g_alike_given : DS := dSeq (dDrop (dCall m_check_tables [false, false] [] (dCons (dVar 0) (dCons (dVar 1) (dNil))))) (dSeq (dSet 2 (dLc (dIter DL.iSeq (dCall m_shared_spans [false, false] [] (dCons (dVar 0) (dCons (dVar 1) (dNil))))) (DL.gTup 4 (DL.gCons (DL.gName 3) (DL.gCons (DL.gName 4) (DL.gCons (DL.gName 5) (DL.gCons (DL.gName 6) (DL.gNil)))))) (dTest (dOp2 opEq (dVar 5) (dVar 6))) (dOp2 opSub (dVar 4) (dVar 3)) [3, 4, 5, 6])) (dRet (dCall m_odds_of [false, false] [] (dCons (dCallB bSum (dCons (dVar 2) (dNil))) (dCons (dOp2 opMul (dCallB bSum (dCons (dVar 0) (dNil))) (dCallB bSum (dCons (dVar 1) (dNil)))) (dNil))))))
noncomputable def m_alike_given : Fn := run 7 g_alike_given
noncomputable def g_parted_spans : DS := dSeq (dDrop (dCall m_check_tables [false, false] [] (dCons (dVar 0) (dCons (dVar 1) (dNil))))) (dSeq (dParQ 2 3 [] (dOp2 opMul (dCallB bSum (dCons (dVar 0) (dNil))) (dCallB bSum (dCons (dVar 1) (dNil)))) (dList (dNil)) dNil) (dSeq (dFor (dIter DL.iSeq (dCall m_shared_spans [false, false] [] (dCons (dVar 0) (dCons (dVar 1) (dNil))))) (DL.gTup 4 (DL.gCons (DL.gName 4) (DL.gCons (DL.gName 5) (DL.gCons (DL.gName 6) (DL.gCons (DL.gName 7) (DL.gNil)))))) (dIfS (dTest (dOp2 opNe (dVar 6) (dVar 7))) (dAppend 3 (dTup (dCons (dCall m_odds_of [false, false] [] (dCons (dVar 4) (dCons (dVar 2) (dNil)))) (dCons (dCall m_odds_of [false, false] [] (dCons (dVar 5) (dCons (dVar 2) (dNil)))) (dCons (dVar 6) (dCons (dVar 7) (dNil))))))) (dNext))) (dRet (dVar 3))))
noncomputable def m_parted_spans : Fn := run 8 g_parted_spans
noncomputable def g__law_hash : DS := dSeq (dSet 2 (dOp2 opMod (dCallB bInt (dCons (dOp2 opAdd (dOp2 opAdd (dOp2 opAdd (dOp2 opMul (dVar 0) (dC (.int 1140671))) (dOp2 opMul (dOp2 opMul (dC (.int 27644437)) (dVar 1)) (dVar 1))) (dOp2 opMul (dC (.int 131)) (dVar 1))) (dC (.int 19))) (dNil))) (dC (.int 2147483629)))) (dSeq (dSet 2 (dOp2 opMod (dCallB bInt (dCons (dOp2 opAdd (dOp2 opAdd (dOp2 opMul (dVar 2) (dVar 2)) (dOp2 opMul (dC (.int 62089)) (dVar 1))) (dC (.int 32416187))) (dNil))) (dC (.int 2147483587)))) (dRet (dOp2 opMod (dCallB bInt (dCons (dOp2 opMul (dVar 2) (dC (.int 48271))) (dNil))) (dC (.int 2147483647)))))
noncomputable def m__law_hash : Fn := run 3 g__law_hash
noncomputable def g__law_random : DS := dSeq (dIfS (dTest (dOp2 opGt (dOp2 opIx (dVar 0) (dC (.int 0))) (dC (.int 0)))) (dSeq (dSet 2 (dOp2 opMod (dCallB bInt (dCons (dOp2 opIx (dVar 0) (dC (.int 0))) (dNil))) (dVar 1))) (dSeq (dSetIx 0 (dC (.int 0)) (dOp2 opDiv (dOp2 opIx (dVar 0) (dC (.int 0))) (dVar 1))) (dRet (dVar 2)))) (dNext)) (dSeq (dSet 2 (dC (.int 0))) (dSeq (dFor (dIterA iRange1 (dCons (dOp2 opAdd (dC (.int 1)) (dOp2 opDiv (dOp1 opBits (dVar 1)) (dC (.int 30)))) (dNil))) (DL.gName 3) (dSeq (dSetIx 0 (dC (.int 2)) (dOp2 opAdd (dOp2 opIx (dVar 0) (dC (.int 2))) (dC (.int 1)))) (dSet 2 (dOp2 opAdd (dOp2 opMul (dVar 2) (dC (.int 2147483587))) (dCall m__law_hash [false, false] [] (dCons (dOp2 opIx (dVar 0) (dC (.int 1))) (dCons (dOp2 opIx (dVar 0) (dC (.int 2))) (dNil)))))))) (dRet (dOp2 opMod (dCallB bInt (dCons (dVar 2) (dNil))) (dVar 1)))))
noncomputable def m__law_random : Fn := run 4 g__law_random
noncomputable def g__law_cell : DS := dSeq (dIfS (dTest (dOp2 opLt (dVar 1) (dCallB bLen (dCons (dVar 0) (dNil))))) (dRet (dOp2 opIx (dVar 0) (dVar 1))) (dNext)) (dRet (dOp2 opMod (dCallB bSum (dCons (dSlice opSlice (dVar 0) (dNoPart) (dPart (dC (.int 1)))) (dNil))) (dC (.int 1000003))))
noncomputable def m__law_cell : Fn := run 2 g__law_cell
noncomputable def g__law_generator : DS := dSeq (dSet 2 (dCall m__law_cell [false, false] [] (dCons (dVar 0) (dCons (dVar 1) (dNil))))) (dRet (dList (dCons (dOp2 opMod (dCallB bInt (dCons (dCallB bMax2 (dCons (dOp2 opSub (dVar 2) (dOp2 opPow (dC (.int 10)) (dC (.int 18)))) (dCons (dC (.int 0)) (dNil)))) (dNil))) (dOp2 opPowW (dOp2 opPow (dC (.int 10)) (dC (.int 60))) (dC (.int 10)))) (dCons (dOp2 opMod (dCallB bInt (dCons (dVar 2) (dNil))) (dC (.int 2147483647))) (dCons (dOp2 opMul (dC (.int 1000)) (dVar 1)) (dNil))))))
noncomputable def m__law_generator : Fn := run 3 g__law_generator
noncomputable def g__law_pick : DS := dRet (dOp2 opIx (dVar 1) (dCall m__law_random [true, false] [] (dCons (dVar 0) (dCons (dCallB bLen (dCons (dVar 1) (dNil))) (dNil)))))
noncomputable def m__law_pick : Fn := run 2 g__law_pick
noncomputable def g__law_same (self : Fn) : DS := dSeq (dIfS (dOr (dTest (dOp1 (bIsi "tuple") (dVar 1))) (dTest (dOp1 (bIsi "list") (dVar 1)))) (dSeq (dIfS (dOr (dTest (dOp2 opNe (dOp1 (bIsi "tuple") (dVar 0)) (dOp1 (bIsi "tuple") (dVar 1)))) (dTest (dOp2 opNe (dOp1 (bIsi "list") (dVar 0)) (dOp1 (bIsi "list") (dVar 1))))) (dRet (dC (.bool false))) (dNext)) (dRet (dAndV (dOp2 opEq (dCallB bLen (dCons (dVar 0) (dNil))) (dCallB bLen (dCons (dVar 1) (dNil)))) (dOp2 opEq (dLc (dIterA iRange1 (dCons (dCallB bLen (dCons (dVar 1) (dNil))) (dNil))) (DL.gName 2) (dNot (dTest (dCall self [false, false] [] (dCons (dOp2 opIx (dVar 0) (dVar 2)) (dCons (dOp2 opIx (dVar 1) (dVar 2)) (dNil)))))) (dVar 2) [2]) (dList (dNil)))))) (dNext)) (dSeq (dIfS (dOr (dTest (dOp1 (bIsi "bool") (dVar 1))) (dTest (dOp1 (bIsi "bool") (dVar 0)))) (dRet (dIf (dTest (dOp2 opIs (dVar 1) (dC (.bool true)))) (dOp2 opIs (dVar 0) (dC (.bool true))) (dIf (dTest (dOp2 opIs (dVar 1) (dC (.bool false)))) (dOp2 opIs (dVar 0) (dC (.bool false))) (dC (.bool false))))) (dNext)) (dSeq (dIfS (dTest (dOp1 (bIsi "int") (dVar 1))) (dRet (dAndV (dOp1 (bIsi "int") (dVar 0)) (dOp2 opEq (dVar 0) (dVar 1)))) (dNext)) (dSeq (dIfS (dTest (dOp1 (bIsi "str") (dVar 1))) (dRet (dAndV (dOp1 (bIsi "str") (dVar 0)) (dOp2 opEq (dVar 0) (dVar 1)))) (dNext)) (dRet (dAndV (dOp2 opIs (dVar 1) (dC .none)) (dOp2 opIs (dVar 0) (dC .none)))))))
noncomputable def m__law_same : Nat → Fn
  | 0 => fun _ => none
  | n + 1 => run 3 (g__law_same (m__law_same n))
noncomputable def g__law_common : DS := dSeq (dWhile (dTest (dOp2 opGt (dVar 1) (dC (.int 0)))) (dPar [0, 1] (dCons (dVar 1) (dCons (dOp2 opMod (dVar 0) (dVar 1)) (dNil))))) (dRet (dVar 0))
noncomputable def m__law_common : Fn := run 2 g__law_common
noncomputable def g__law_odds : DS := dSeq (dSet 2 (dCall m__law_common [false, false] [] (dCons (dVar 0) (dCons (dVar 1) (dNil))))) (dRet (dTup (dCons (dOp2 opDiv (dVar 0) (dVar 2)) (dCons (dOp2 opDiv (dVar 1) (dVar 2)) (dNil)))))
noncomputable def m__law_odds : Fn := run 3 g__law_odds
noncomputable def g__law_sum : DS := dSeq (dAsg (DL.gTup 2 (DL.gCons (DL.gName 1) (DL.gCons (DL.gName 2) (DL.gNil)))) (dTup (dCons (dC (.int 0)) (dCons (dC (.int 1)) (dNil))))) (dSeq (dFor (dIter DL.iSeq (dVar 0)) (DL.gName 3) (dPar [1, 2] (dCons (dOp2 opAdd (dOp2 opMul (dVar 1) (dOp2 opIx (dVar 3) (dC (.int 1)))) (dOp2 opMul (dOp2 opIx (dVar 3) (dC (.int 0))) (dVar 2))) (dCons (dOp2 opMul (dVar 2) (dOp2 opIx (dVar 3) (dC (.int 1)))) (dNil))))) (dRet (dCall m__law_odds [false, false] [] (dCons (dVar 1) (dCons (dVar 2) (dNil))))))
noncomputable def m__law_sum : Fn := run 4 g__law_sum
noncomputable def g__law_less : DS := dRet (dCall m__law_odds [false, false] [] (dCons (dOp2 opSub (dOp2 opMul (dOp2 opIx (dVar 0) (dC (.int 0))) (dOp2 opIx (dVar 1) (dC (.int 1)))) (dOp2 opMul (dOp2 opIx (dVar 1) (dC (.int 0))) (dOp2 opIx (dVar 0) (dC (.int 1))))) (dCons (dOp2 opMul (dOp2 opIx (dVar 0) (dC (.int 1))) (dOp2 opIx (dVar 1) (dC (.int 1)))) (dNil))))
noncomputable def m__law_less : Fn := run 2 g__law_less
noncomputable def g__law_below : DS := dRet (dOp2 opLt (dOp2 opMul (dOp2 opIx (dVar 0) (dC (.int 0))) (dOp2 opIx (dVar 1) (dC (.int 1)))) (dOp2 opMul (dOp2 opIx (dVar 1) (dC (.int 0))) (dOp2 opIx (dVar 0) (dC (.int 1)))))
noncomputable def m__law_below : Fn := run 2 g__law_below
noncomputable def g__law_table : DS := dSeq (dSet 2 (dCall m__law_pick [true, false] [] (dCons (dVar 0) (dCons (dList (dCons (dC (.int 2)) (dCons (dC (.int 3)) (dCons (dC (.int 6)) (dCons (dC (.int 6)) (dCons (dC (.int 40)) (dCons (dOp2 opPow (dC (.int 10)) (dC (.int 12))) (dNil)))))))) (dNil))))) (dSeq (dSet 3 (dLc (dIterA iRange1 (dCons (dVar 1) (dNil))) (DL.gName 4) (dTests) (dCall m__law_random [true, false] [] (dCons (dVar 0) (dCons (dVar 2) (dNil)))) [4])) (dSeq (dIfS (dTest (dOp2 opEq (dCallB bMaxL (dCons (dVar 3) (dNil))) (dC (.int 0)))) (dSetIx 3 (dCall m__law_random [true, false] [] (dCons (dVar 0) (dCons (dVar 1) (dNil)))) (dOp2 opAdd (dC (.int 1)) (dCall m__law_random [true, false] [] (dCons (dVar 0) (dCons (dVar 2) (dNil)))))) (dNext)) (dRet (dVar 3))))
noncomputable def m__law_table : Fn := run 5 g__law_table
noncomputable def g__law_shortest : DS := dSeq (dSet 2 (dC (.int 1))) (dWhile (dTest (dC (.bool true))) (dSeq (dSet 3 (dOp2 opDiv (dOp2 opSub (dOp2 opAdd (dOp2 opMul (dOp2 opIx (dVar 0) (dC (.int 0))) (dVar 2)) (dOp2 opIx (dVar 0) (dC (.int 1)))) (dC (.int 1))) (dOp2 opIx (dVar 0) (dC (.int 1))))) (dSeq (dIfS (dTest (dCall m__law_below [false, false] [] (dCons (dTup (dCons (dVar 3) (dCons (dVar 2) (dNil)))) (dCons (dVar 1) (dNil))))) (dRet (dTup (dCons (dCall m__law_odds [false, false] [] (dCons (dVar 3) (dCons (dVar 2) (dNil)))) (dCons (dVar 2) (dNil))))) (dNext)) (dSet 2 (dOp2 opMul (dVar 2) (dC (.int 2)))))))
noncomputable def m__law_shortest : Fn := run 4 g__law_shortest
noncomputable def g__law_power : DS := dSeq (dSet 1 (dC (.int 1))) (dSeq (dFor (dIterA iRange1 (dCons (dVar 0) (dNil))) (DL.gName 2) (dSet 1 (dOp2 opMul (dVar 1) (dC (.int 2))))) (dRet (dVar 1)))
noncomputable def m__law_power : Fn := run 3 g__law_power
noncomputable def g__law_drawn_span : DS := dSeq (dSet 1 (dCall m__law_random [true, false] [] (dCons (dVar 0) (dCons (dC (.int 5)) (dNil))))) (dSeq (dIfS (dTest (dOp2 opEq (dVar 1) (dC (.int 4)))) (dSeq (dSet 2 (dCall m__law_random [true, false] [] (dCons (dVar 0) (dCons (dOp2 opPow (dC (.int 10)) (dC (.int 38))) (dNil))))) (dRet (dTup (dCons (dTup (dCons (dVar 2) (dCons (dOp2 opAdd (dVar 2) (dC (.int 1))) (dNil)))) (dCons (dTup (dCons (dOp2 opAdd (dVar 2) (dC (.int 1))) (dCons (dOp2 opAdd (dVar 2) (dC (.int 2))) (dNil)))) (dNil)))))) (dNext)) (dSeq (dIfS (dTest (dOp2 opEq (dVar 1) (dC (.int 0)))) (dRet (dOp2 opIx (dList (dCons (dTup (dCons (dTup (dCons (dC (.int 0)) (dCons (dC (.int 1)) (dNil)))) (dCons (dTup (dCons (dC (.int 1)) (dCons (dC (.int 1)) (dNil)))) (dNil)))) (dCons (dTup (dCons (dTup (dCons (dC (.int 0)) (dCons (dC (.int 1)) (dNil)))) (dCons (dTup (dCons (dC (.int 1)) (dCons (dC (.int 3)) (dNil)))) (dNil)))) (dCons (dTup (dCons (dTup (dCons (dC (.int 1)) (dCons (dC (.int 2)) (dNil)))) (dCons (dTup (dCons (dC (.int 1)) (dCons (dC (.int 1)) (dNil)))) (dNil)))) (dCons (dTup (dCons (dTup (dCons (dC (.int 1)) (dCons (dC (.int 3)) (dNil)))) (dCons (dTup (dCons (dC (.int 1)) (dCons (dC (.int 2)) (dNil)))) (dNil)))) (dCons (dTup (dCons (dTup (dCons (dC (.int 1)) (dCons (dC (.int 2)) (dNil)))) (dCons (dTup (dCons (dC (.int 2)) (dCons (dC (.int 3)) (dNil)))) (dNil)))) (dCons (dTup (dCons (dTup (dCons (dC (.int 0)) (dCons (dC (.int 1)) (dNil)))) (dCons (dTup (dCons (dC (.int 1)) (dCons (dC (.int 2)) (dNil)))) (dNil)))) (dNil)))))))) (dCall m__law_random [true, false] [] (dCons (dVar 0) (dCons (dC (.int 6)) (dNil)))))) (dNext)) (dSeq (dSet 3 (dCall m__law_pick [true, false] [] (dCons (dVar 0) (dCons (dList (dCons (dC (.int 7)) (dCons (dC (.int 12)) (dCons (dC (.int 1000)) (dCons (dOp2 opPow (dC (.int 10)) (dC (.int 30))) (dCons (dCall m__law_power [false] [] (dCons (dOp2 opAdd (dC (.int 1)) (dCall m__law_random [true, false] [] (dCons (dVar 0) (dCons (dC (.int 130)) (dNil))))) (dNil))) (dNil))))))) (dNil))))) (dSeq (dSet 4 (dCall m__law_random [true, false] [] (dCons (dVar 0) (dCons (dVar 3) (dNil))))) (dSeq (dSet 5 (dCallB bMin2 (dCons (dVar 3) (dCons (dOp2 opAdd (dOp2 opAdd (dVar 4) (dC (.int 1))) (dCall m__law_random [true, false] [] (dCons (dVar 0) (dCons (dCall m__law_pick [true, false] [] (dCons (dVar 0) (dCons (dList (dCons (dC (.int 1)) (dCons (dC (.int 2)) (dCons (dC (.int 5)) (dCons (dVar 3) (dNil)))))) (dNil)))) (dNil))))) (dNil))))) (dRet (dTup (dCons (dCall m__law_odds [false, false] [] (dCons (dVar 4) (dCons (dVar 3) (dNil)))) (dCons (dCall m__law_odds [false, false] [] (dCons (dVar 5) (dCons (dVar 3) (dNil)))) (dNil))))))))))
noncomputable def m__law_drawn_span : Fn := run 6 g__law_drawn_span
noncomputable def g__law_short_right : DS := dSeq (dAsg (DL.gTup 2 (DL.gCons (DL.gName 1) (DL.gCons (DL.gName 2) (DL.gNil)))) (dCall m__law_drawn_span [true] [] (dCons (dVar 0) (dNil)))) (dSeq (dAsg (DL.gTup 2 (DL.gCons (DL.gName 3) (DL.gCons (DL.gName 4) (DL.gNil)))) (dCall m__law_shortest [false, false] [] (dCons (dVar 1) (dCons (dVar 2) (dNil))))) (dSeq (dSet 5 (dCall m_shortest_draw [false, false] [] (dCons (dVar 1) (dCons (dVar 2) (dNil))))) (dSeq (dIfS (dOr (dNot (dTest (dCall (m__law_same 8) [false, false] [] (dCons (dVar 5) (dCons (dVar 3) (dNil)))))) (dNot (dTest (dCall (m__law_same 8) [false, false] [] (dCons (dCallK m_shortest_draw 0 2 [1, 0] [] dNil (dCons (dVar 2) (dCons (dVar 1) (dNil)))) (dCons (dVar 3) (dNil))))))) (dRet (dC (.bool false))) (dNext)) (dSeq (dIfS (dOr (dTest (dCall m__law_below [false, false] [] (dCons (dVar 5) (dCons (dVar 1) (dNil))))) (dNot (dTest (dCall m__law_below [false, false] [] (dCons (dVar 5) (dCons (dVar 2) (dNil))))))) (dRet (dC (.bool false))) (dNext)) (dRet (dAndV (dCall m__law_below [false, false] [] (dCons (dCall m__law_less [false, false] [] (dCons (dVar 2) (dCons (dVar 1) (dNil)))) (dCons (dTup (dCons (dC (.int 2)) (dCons (dVar 4) (dNil)))) (dNil)))) (dOrV (dOp2 opEq (dVar 4) (dC (.int 1))) (dCall m__law_below [false, false] [] (dCons (dCall m__law_less [false, false] [] (dCons (dVar 2) (dCons (dVar 1) (dNil)))) (dCons (dCall m__law_odds [false, false] [] (dCons (dC (.int 2)) (dCons (dVar 4) (dNil)))) (dNil)))))))))))
noncomputable def m__law_short_right : Fn := run 6 g__law_short_right
noncomputable def g__law_ends : DS := dSeq (dParQ 1 2 [] (dC (.int 0)) (dList (dNil)) dNil) (dSeq (dFor (dIter DL.iSeq (dVar 0)) (DL.gName 3) (dSeq (dSet 1 (dOp2 opAdd (dVar 1) (dVar 3))) (dAppend 2 (dCall m__law_odds [false, false] [] (dCons (dVar 1) (dCons (dCallB bSum (dCons (dVar 0) (dNil))) (dNil))))))) (dRet (dVar 2)))
noncomputable def m__law_ends : Fn := run 4 g__law_ends
noncomputable def g__law_stretches : DS := dSeq (dParW 2 3 [4] (dList (dNil)) (dList (dNil)) (dCons (dTup (dCons (dC (.int 0)) (dCons (dC (.int 1)) (dNil)))) (dNil))) (dSeq (dFor (dIter DL.iSeq (dOp2 opAdd (dCall m__law_ends [false] [] (dCons (dVar 0) (dNil))) (dCall m__law_ends [false] [] (dCons (dVar 1) (dNil))))) (DL.gName 5) (dSet 2 (dOp2 opAdd (dVar 2) (dOp2 opMul (dList (dCons (dVar 5) (dNil))) (dCallB bInt (dCons (dAndV (dOp2 opNotInD (dVar 5) (dVar 2)) (dOp2 opNe (dVar 5) (dTup (dCons (dC (.int 0)) (dCons (dC (.int 1)) (dNil)))))) (dNil))))))) (dSeq (dWhile (dTest (dOp2 opNe (dVar 2) (dList (dNil)))) (dSeq (dSet 6 (dOp2 opIx (dVar 2) (dC (.int 0)))) (dSeq (dForB 2 (DL.gName 5) (dSet 6 (dIf (dTest (dCall m__law_below [false, false] [] (dCons (dVar 5) (dCons (dVar 6) (dNil))))) (dVar 5) (dVar 6)))) (dSeq (dRemoveD 2 (dVar 6)) (dSeq (dAppend 3 (dTup (dCons (dVar 4) (dCons (dVar 6) (dCons (dCall m_place_drawn [false, false] [] (dCons (dVar 0) (dCons (dVar 4) (dNil)))) (dCons (dCall m_place_drawn [false, false] [] (dCons (dVar 1) (dCons (dVar 4) (dNil)))) (dNil))))))) (dSet 4 (dVar 6))))))) (dRet (dVar 3))))
noncomputable def m__law_stretches : Fn := run 7 g__law_stretches
noncomputable def g__law_parted : DS := dSeq (dSet 1 (dList (dNil))) (dSeq (dFor (dIter DL.iSeq (dVar 0)) (DL.gTup 4 (DL.gCons (DL.gName 2) (DL.gCons (DL.gName 3) (DL.gCons (DL.gName 4) (DL.gCons (DL.gName 5) (DL.gNil)))))) (dIfS (dAnd (dTest (dOp2 opNe (dVar 4) (dVar 5))) (dAnd (dTest (dOp2 opNe (dVar 1) (dList (dNil)))) (dTest (dOp2 opEq (dSlice opSliceT (dOp2 opIx (dVar 1) (dOp1 opNeg (dC (.int 1)))) (dPart (dC (.int 1))) (dNoPart)) (dTup (dCons (dVar 2) (dCons (dVar 4) (dCons (dVar 5) (dNil))))))))) (dSetIx 1 (dOp1 opNeg (dC (.int 1))) (dTup (dCons (dOp2 opIx (dOp2 opIx (dVar 1) (dOp1 opNeg (dC (.int 1)))) (dC (.int 0))) (dCons (dVar 3) (dCons (dVar 4) (dCons (dVar 5) (dNil))))))) (dIfS (dTest (dOp2 opNe (dVar 4) (dVar 5))) (dAppend 1 (dTup (dCons (dVar 2) (dCons (dVar 3) (dCons (dVar 4) (dCons (dVar 5) (dNil))))))) (dNext)))) (dRet (dVar 1)))
noncomputable def m__law_parted : Fn := run 6 g__law_parted
noncomputable def g__law_two_right : DS := dSeq (dPar [2, 3] (dCons (dCall m__law_table [true, false] [] (dCons (dVar 0) (dCons (dVar 1) (dNil)))) (dCons (dCall m__law_table [true, false] [] (dCons (dVar 0) (dCons (dVar 1) (dNil)))) (dNil)))) (dSeq (dIfS (dTest (dOp2 opEq (dCall m__law_random [true, false] [] (dCons (dVar 0) (dCons (dC (.int 5)) (dNil)))) (dC (.int 0)))) (dSet 3 (dLc (dIter DL.iSeq (dVar 2)) (DL.gName 10) (dTests) (dOp2 opMul (dVar 10) (dC (.int 3))) [10])) (dNext)) (dSeq (dPar [4, 5] (dCons (dCallB bRepr (dCons (dList (dCons (dVar 2) (dCons (dVar 3) (dNil)))) (dNil))) (dCons (dCall m__law_stretches [false, false] [] (dCons (dVar 2) (dCons (dVar 3) (dNil)))) (dNil)))) (dSeq (dSet 6 (dCall m__law_sum [false] [] (dCons (dLc (dIter DL.iSeq (dVar 5)) (DL.gTup 4 (DL.gCons (DL.gName 11) (DL.gCons (DL.gName 12) (DL.gCons (DL.gName 13) (DL.gCons (DL.gName 14) (DL.gNil)))))) (dTest (dOp2 opEq (dVar 13) (dVar 14))) (dCall m__law_less [false, false] [] (dCons (dVar 12) (dCons (dVar 11) (dNil)))) [11, 12, 13, 14]) (dNil)))) (dSeq (dSet 7 (dCall m__law_parted [false] [] (dCons (dVar 5) (dNil)))) (dSeq (dSet 8 (dCall m_parted_spans [false, false] [] (dCons (dVar 2) (dCons (dVar 3) (dNil))))) (dSeq (dIfS (dOr (dNot (dTest (dCall (m__law_same 8) [false, false] [] (dCons (dCall m_alike_given [false, false] [] (dCons (dVar 2) (dCons (dVar 3) (dNil)))) (dCons (dVar 6) (dNil)))))) (dNot (dTest (dCall (m__law_same 8) [false, false] [] (dCons (dCallK m_alike_given 0 2 [1, 0] [] dNil (dCons (dVar 3) (dCons (dVar 2) (dNil)))) (dCons (dVar 6) (dNil))))))) (dRet (dC (.bool false))) (dNext)) (dSeq (dIfS (dBorrowT (dOr (dNot (dTest (dCall (m__law_same 8) [false, false] [] (dCons (dVar 8) (dCons (dVar 7) (dNil)))))) (dTest (dOp2 opNe (dCall m__law_sum [false] [] (dCons (dOp2 opAdd (dList (dCons (dVar 6) (dNil))) (dLc (dIter DL.iSeq (dVar 8)) (DL.gTup 4 (DL.gCons (DL.gName 11) (DL.gCons (DL.gName 12) (DL.gCons (DL.gName 13) (DL.gCons (DL.gName 14) (DL.gNil)))))) (dTests) (dCall m__law_less [false, false] [] (dCons (dVar 12) (dCons (dVar 11) (dNil)))) [11, 12, 13, 14])) (dNil))) (dTup (dCons (dC (.int 1)) (dCons (dC (.int 1)) (dNil)))))))) (dRet (dC (.bool false))) (dNext)) (dSeq (dSet 9 (dCall m_overlap [false, false] [] (dCons (dVar 2) (dCons (dVar 3) (dNil))))) (dSeq (dIfS (dOr (dTest (dCall m__law_below [false, false] [] (dCons (dVar 9) (dCons (dVar 6) (dNil))))) (dAnd (dTest (dOp2 opLt (dVar 1) (dC (.int 3)))) (dTest (dOp2 opNe (dVar 6) (dVar 9))))) (dRet (dC (.bool false))) (dNext)) (dSeq (dAppend 8 (dC .none)) (dRet (dAndV (dCall (m__law_same 8) [false, false] [] (dCons (dCallK m_parted_spans 0 2 [1, 0] [] dNil (dCons (dVar 3) (dCons (dVar 2) (dNil)))) (dCons (dVar 7) (dNil)))) (dOp2 opEq (dCallB bRepr (dCons (dList (dCons (dVar 2) (dCons (dVar 3) (dNil)))) (dNil))) (dVar 4))))))))))))))
noncomputable def m__law_two_right : Fn := run 15 g__law_two_right
noncomputable def g_law : DS := dSeq (dFor (dIterA iRange1 (dCons (dC (.int 2)) (dNil))) (DL.gName 1) (dSeq (dSet 2 (dCall m__law_generator [false, false] [] (dCons (dVar 0) (dCons (dVar 1) (dNil))))) (dIfS (dOr (dNot (dTest (dCall m__law_short_right [true] [] (dCons (dVar 2) (dNil))))) (dOr (dNot (dTest (dCall m__law_two_right [true, false] [] (dCons (dVar 2) (dCons (dOp2 opAdd (dC (.int 1)) (dCall m__law_random [true, false] [] (dCons (dVar 2) (dCons (dC (.int 6)) (dNil))))) (dNil)))))) (dNot (dTest (dCall m__law_two_right [true, false] [] (dCons (dVar 2) (dCons (dC (.int 2)) (dNil)))))))) (dRet (dC (.bool false))) (dNext)))) (dRet (dC (.bool true)))
noncomputable def m_law : Fn := run 3 g_law
end K30
end

section
set_option linter.all false
namespace K30
open PySem DL
/-! ## the generator -/
/-- a product of numbers that are not great -/
theorem mul_n {i j : Nat} (hi : Sm 1000 i) (hj : Sm 1000 j) : opMul (.int (i : Nat)) (.int (j : Nat)) = some (.d (.int ((i * j : Nat) : Int))) := by
  have h1 := hi.log
  have h2 := hj.log
  have h3 : i.log2 + j.log2 < 1000000 := by omega
  simp [h3]
theorem mul_in {i : Int} {j : Nat} (hi : Sm 1000 i.natAbs) (hj : Sm 1000 j) : opMul (.int i) (.int (j : Nat)) = some (.d (.int (i * j))) := by
  have h1 := hi.log
  have h2 := hj.log
  have h3 : i.natAbs.log2 + j.log2 < 1000000 := by omega
  simp [h3]
theorem log_lit {a : Nat} (k : Nat) (h : a < 2 ^ k) (hk : k ≤ 1000) : a.log2 ≤ 1000 := Nat.le_trans (Sm.log h) hk
theorem hash_ok (s i : Nat) (hs : s < 2147483647) (hi : Sm 40 i) : ∃ h : Nat, h < 2147483647 ∧ m__law_hash [.d (N s), .d (N i)] = some (.d (N h), []) := by
  have hs' : Sm 31 s := sm_of 31 (by omega)
  have l1 := hs'.log
  have l2 := hi.log
  have c1 : Nat.log2 1140671 ≤ 40 := (sm_of 40 (by decide)).log
  have c2 : Nat.log2 27644437 ≤ 40 := (sm_of 40 (by decide)).log
  have c3 : Nat.log2 131 ≤ 40 := (sm_of 40 (by decide)).log
  have c4 : Nat.log2 62089 ≤ 40 := (sm_of 40 (by decide)).log
  have c5 : Nat.log2 48271 ≤ 40 := (sm_of 40 (by decide)).log
  have l3 : (27644437 * i).log2 ≤ 80 := ((sm_of (a := 27644437) 40 (by decide)).mul hi).log
  obtain ⟨x, hx⟩ : ∃ x : Nat, x = (s * 1140671 + 27644437 * i * i + 131 * i + 19) % 2147483629 := ⟨_, rfl⟩
  have hx' : (((s : Int) * 1140671 + 27644437 * (i : Int) * (i : Int) + 131 * (i : Int) + 19) % 2147483629) = (x : Nat) := by
    rw [hx]
    simp
  have l4 : x.log2 ≤ 40 := (sm_of 40 (show x < 2 ^ 40 by rw [hx]; omega)).log
  obtain ⟨y, hy⟩ : ∃ y : Nat, y = (x * x + 62089 * i + 32416187) % 2147483587 := ⟨_, rfl⟩
  have hy' : (((x : Int) * (x : Int) + 62089 * (i : Int) + 32416187) % 2147483587) = (y : Nat) := by
    rw [hy]
    simp
  have l5 : y.log2 ≤ 40 := (sm_of 40 (show y < 2 ^ 40 by rw [hy]; omega)).log
  refine ⟨y * 48271 % 2147483647, Nat.mod_lt _ (by decide), ?_⟩
  have a1 : ((27644437 : Int) * i).natAbs.log2 ≤ 80 := by
    rw [show ((27644437 : Int) * i) = ((27644437 * i : Nat) : Int) by simp]
    exact l3
  have m1 : s.log2 + Nat.log2 1140671 < 1000000 := by omega
  have m2 : Nat.log2 27644437 + i.log2 < 1000000 := by omega
  have m3 : ((27644437 : Int) * i).natAbs.log2 + i.log2 < 1000000 := by omega
  have m4 : Nat.log2 131 + i.log2 < 1000000 := by omega
  have m5 : x.log2 + x.log2 < 1000000 := by omega
  have m6 : Nat.log2 62089 + i.log2 < 1000000 := by omega
  have m7 : y.log2 + Nat.log2 48271 < 1000000 := by omega
  simp [m__law_hash, g__law_hash, run_ap, startD, m1, m2, m3, m4, m5, m6, m7, hx', hy']
def gen (big seed cnt : Nat) : List D := [N big, N seed, N cnt]
def Gen (n : Nat) (P : List D) : Prop := ∃ big seed cnt, P = gen big seed cnt ∧ seed < 2147483647 ∧ cnt ≤ n
theorem bits_small {b : Nat} (h : Sm 140 b) : Builtin.Int.intBits (b : Int) ≤ 141 := by
  have h1 := h.log
  unfold Builtin.Int.intBits
  split
  · omega
  · simp
    omega
theorem turns_go {b : Nat} {big seed : Nat} (hs : seed < 2147483647) : ∀ (xs : List D) (cnt d j : Nat) (v : Option SV), (v = none ∨ ∃ y, v = some (.d y)) → cnt + xs.length ≤ 1000000 → Sm (40 + 40 * j) d → j + xs.length ≤ 10 →
    ∃ d' v', Sm 1000 d' ∧ forGo (DL.gName 3) (dSeq (dSetIx 0 (dC (.int 2)) (dOp2 opAdd (dOp2 opIx (dVar 0) (dC (.int 2))) (dC (.int 1)))) (dSet 2 (dOp2 opAdd (dOp2 opMul (dVar 2) (dC (.int 2147483587))) (dCall m__law_hash [false, false] [] (dCons (dOp2 opIx (dVar 0) (dC (.int 1))) (dCons (dOp2 opIx (dVar 0) (dC (.int 2))) (dNil))))))) xs [some (.lent (gen big seed cnt)), some (.d (N b)), some (.d (N d)), v] =
      some (.nx, [some (.lent (gen big seed (cnt + xs.length))), some (.d (N b)), some (.d (N d')), v'])
  | [], cnt, d, j, v, hv, hn, hd, hj => ⟨d, v, hd.mono (by simp at hj; omega), by simp [forGo_nil]⟩
  | x :: r, cnt, d, j, v, hv, hn, hd, hj => by
    simp only [List.length_cons] at hn hj
    obtain ⟨h, hh, e⟩ := hash_ok seed (cnt + 1) hs (sm_of 40 (by omega))
    have hd2 : Sm (40 + 40 * (j + 1)) (d * 2147483587 + h) := by
      have h1 : Sm (40 + 40 * j + 31) (d * 2147483587) := hd.mul (sm_of 31 (by omega))
      exact (h1.add ((sm_of (a := h) 31 (by omega)).mono (by omega))).mono (by omega)
    obtain ⟨d', v', h1, h2⟩ := turns_go (b := b) (big := big) hs r (cnt + 1) (d * 2147483587 + h) (j + 1) (some (.d x)) (.inr ⟨_, rfl⟩) (by omega) hd2 (by omega)
    have l1 := hd.log
    have l2 : Nat.log2 2147483587 ≤ 31 := (sm_of (a := 2147483587) 31 (by decide)).log
    have l3 : d.log2 + Nat.log2 2147483587 < 1000000 := by omega
    refine ⟨d', v', h1, ?_⟩
    simp only [gen, N, Int.natCast_add, Int.natCast_mul, Int.cast_ofNat_Int] at e h2 ⊢
    rw [forGo_cons]
    rw [show ((cnt : Int) + (((x :: r).length : Nat) : Int)) = ((cnt : Int) + 1) + (r.length : Nat) by simp; omega]
    rcases hv with rfl | ⟨z, rfl⟩ <;> simp [l3, e, h2]
theorem random_ok {n : Nat} {P : List D} (hn : n ≤ 900000) (hP : Gen n P) (b : Nat) (h0 : 0 < b) (h1 : Sm 140 b) :
    ∃ r P', r < b ∧ Gen (n + 5) P' ∧ m__law_random [.m P, .d (N b)] = some (.d (N r), [P']) := by
  obtain ⟨big, seed, cnt, rfl, hs, hc⟩ := hP
  have h0' : (0 : Int) < (b : Int) := by omega
  have hl : b.log2 < 9000 := Nat.lt_of_le_of_lt h1.log (by omega)
  by_cases hb : 0 < big
  · refine ⟨big % b, gen (big / b) seed cnt, Nat.mod_lt _ h0, ⟨_, _, _, rfl, hs, by omega⟩, ?_⟩
    simp [m__law_random, g__law_random, run_ap, startD, gen, hb, h0, h0', hl]
  · have hb' : big = 0 := by omega
    subst hb'
    have hbt := bits_small h1
    obtain ⟨t, ht, ht4⟩ : ∃ t : Nat, (1 : Int) + ((Builtin.Int.intBits (b : Int) : Nat) : Int) / 30 = (t : Nat) ∧ t ≤ 5 := by
      refine ⟨1 + Builtin.Int.intBits (b : Int) / 30, by simp, by omega⟩
    obtain ⟨d', v', hd', e⟩ := turns_go (b := b) (big := 0) hs ((List.range t).map fun i => .int (0 + (i : Nat))) cnt 0 0 none (.inl rfl) (by simp; omega) (sm_of _ (Nat.two_pow_pos _)) (by simp; omega)
    have l30 : Nat.log2 30 < 9000 := Nat.lt_of_le_of_lt (sm_of (a := 30) 5 (by decide)).log (by decide)
    have hr : iRange1 [.int (t : Nat)] = some ((List.range t).map fun i => .int (0 + (i : Nat))) := by
      have a1 : (t : Int) < 4611686018427387904 := by omega
      have a2 : (-4611686018427387904 : Int) ≤ t := by omega
      simp [a1, a2]
    refine ⟨d' % b, gen 0 seed (cnt + t), Nat.mod_lt _ h0, ⟨_, _, _, rfl, hs, by omega⟩, ?_⟩
    simp [gen, N] at e
    simp only [Int.zero_add] at hr
    simp [m__law_random, g__law_random, run_ap, startD, gen, N, h0, h0', l30, ht, hr, e, -iRange1_i]
theorem pick_ok {n : Nat} {P : List D} (hn : n ≤ 900000) (hP : Gen n P) (xs : List D) (h0 : 0 < xs.length) (h1 : xs.length ≤ 1000) :
    ∃ x P', x ∈ xs ∧ Gen (n + 5) P' ∧ m__law_pick [.m P, .d (.list xs)] = some (.d x, [P']) := by
  obtain ⟨r, P', hr, hP', h⟩ := random_ok hn hP xs.length h0 ((sm_of 10 (by omega)).mono (by decide))
  refine ⟨xs[r], P', List.getElem_mem hr, hP', ?_⟩
  have hr' : (r : Int) < (xs.length : Int) := by omega
  simp [m__law_pick, g__law_pick, run_ap, startD, h, hr, hr']
theorem ints_map : ∀ ns : List Int, intsOf (ns.map .int) = some ns
  | [] => rfl
  | n :: r => by
    rw [List.map_cons, intsOf, ints_map r]
    rfl
theorem cut1 (ns : List Int) : cutD (ns.map PyData.int) none (some 1) = (ns.take 1).map .int := by
  cases ns with
  | nil => rfl
  | cons n r => 
    have e : cutAt (n :: r).length (n :: r).length (some 1) = 1 := by
      show (if (1 : Int) < 0 then ((1 : Int) + ((n :: r).length : Int)).toNat else min (1 : Int).toNat (n :: r).length) = 1
      rw [if_neg (by decide), List.length_cons]
      show min 1 (r.length + 1) = 1
      omega
    show (((n :: r).map PyData.int).drop 0).take (cutAt ((n :: r).map PyData.int).length ((n :: r).map PyData.int).length (some 1) - 0) = _
    rw [List.length_map, e]
    simp
theorem cell_ok (ns : List Int) (k : Nat) : ∃ v, m__law_cell [.d (.list (ns.map .int)), .d (.int (k : Nat))] = some (.d (.int v), []) := by
  by_cases h : k < ns.length
  · have h' : (k : Int) < ns.length := by omega
    exact ⟨ns[k], by simp [m__law_cell, g__law_cell, run_ap, startD, h, h']⟩
  · have h' : ¬ ((k : Int) < ns.length) := by omega
    refine ⟨(ns.take 1).sum % 1000003, ?_⟩
    have e := cut1 ns
    simp only [List.map_take] at e
    have e2 := ints_map (ns.take 1)
    simp only [List.map_take] at e2
    simp [m__law_cell, g__law_cell, run_ap, startD, h', e, e2]
theorem pow60 : opPow (.int 10) (.int 60) = some (.d (.int 1000000000000000000000000000000000000000000000000000000000000)) := by simp
theorem pow18 : opPow (.int 10) (.int 18) = some (.d (.int 1000000000000000000)) := by simp
theorem pow600 : ∃ M : Nat, 0 < M ∧ opPowW (.int 1000000000000000000000000000000000000000000000000000000000000) (.int 10) = some (.d (.int (M : Nat))) := by
  have hb : Builtin.Int.intBits (1000000000000000000000000000000000000000000000000000000000000 : Int) ≤ 201 := by
    have h1 : Nat.log2 1000000000000000000000000000000000000000000000000000000000000 ≤ 200 := (sm_of 200 (by decide)).log
    unfold Builtin.Int.intBits
    split
    · omega
    · show Nat.log2 1000000000000000000000000000000000000000000000000000000000000 + 1 ≤ 201
      omega
  have hc : (0 : Int) ≤ 10 ∧ (Builtin.Int.intBits (1000000000000000000000000000000000000000000000000000000000000 : Int) : Int) * 10 ≤ 2 ^ 27 := by
    refine ⟨by decide, ?_⟩
    omega
  refine ⟨1000000000000000000000000000000000000000000000000000000000000 ^ 10, Nat.pow_pos (by decide), ?_⟩
  rw [opPowW_ii, if_pos hc]
  rfl
theorem generator_ok (ns : List Int) (k : Nat) (hk : k ≤ 100) : ∃ P, Gen (1000 * k) P ∧ m__law_generator [.d (.list (ns.map .int)), .d (.int (k : Nat))] = some (.own P, []) := by
  obtain ⟨v, h1⟩ := cell_ok ns k
  obtain ⟨M, hM, h2⟩ := pow600
  have hM' : (0 : Int) < (M : Int) := by omega
  obtain ⟨a, ha⟩ := Int.eq_ofNat_of_zero_le (Int.emod_nonneg (if v - 1000000000000000000 < 0 then 0 else v - 1000000000000000000) (show ((M : Nat) : Int) ≠ 0 by omega))
  obtain ⟨s, hs⟩ := Int.eq_ofNat_of_zero_le (Int.emod_nonneg v (show (2147483647 : Int) ≠ 0 by decide))
  have hs2 : s < 2147483647 := by
    have := Int.emod_lt_of_pos v (show (0 : Int) < 2147483647 by decide)
    omega
  have l1 : Nat.log2 1000 + k.log2 < 1000000 := by
    have h1 := (sm_of (a := 1000) 10 (by decide)).log
    have h2 := (sm_of (a := k) 10 (by omega)).log
    omega
  refine ⟨gen a s (1000 * k), ⟨_, _, _, rfl, hs2, Nat.le_refl _⟩, ?_⟩
  simp [m__law_generator, g__law_generator, run_ap, startD, h1, pow18, pow60, h2, -opPow_ii, -opPowW_ii, hM, hM', ha, hs, DL.sizeLine_eq, l1, gen]
open P (Ns tab Q sh Bd)
@[simp] theorem e_is_count : m_is_count = P.m_is_count := rfl
@[simp] theorem e_divisor : m_divisor = P.m_divisor := rfl
@[simp] theorem e_by : m_by_lowest = P.m_by_lowest := rfl
@[simp] theorem e_put : m_put_together = P.m_put_together := rfl
@[simp] theorem e_below : m_is_below = P.m_is_below := rfl
@[simp] theorem e_lbelow : m__law_below = P.m_is_below := rfl
@[simp] theorem e_total : m_total = P.m_total := rfl
@[simp] theorem e_counts : m_are_counts = P.m_are_counts := rfl
@[simp] theorem e_table : m_is_table = P.m_is_table := rfl
@[simp] theorem e_look : m_look_at_table = P.m_look_at_table := rfl
@[simp] theorem e_check : m_check_table = P.m_look_at_table := rfl
@[simp] theorem e_look2 : m_look_at_two = P.m_look_at_two := rfl
@[simp] theorem e_check2 : m_check_tables = P.m_look_at_two := rfl
@[simp] theorem e_odds_in : m_odds_in = P.m_odds_in := rfl
theorem common_while : ∀ (b a : Nat), ∃ n, whileN (dTest (dOp2 opGt (dVar 1) (dC (.int 0)))) (dPar [0, 1] (dCons (dVar 1) (dCons (dOp2 opMod (dVar 0) (dVar 1)) (dNil)))) n [some (.d (N a)), some (.d (N b))] = some (.nx, [some (.d (N (Nat.gcd a b))), some (.d (N 0))]) := by
  intro b
  induction b using Nat.strongRecOn with
  | ind b ih =>
    intro a
    cases b with
    | zero =>
      refine ⟨1, ?_⟩
      rw [whileN_end (by simp)]
      simp
    | succ b =>
      obtain ⟨n, hn⟩ := ih (a % (b + 1)) (Nat.mod_lt _ (Nat.succ_pos b)) (b + 1)
      refine ⟨n + 1, ?_⟩
      have h : (0 : Int) < (b : Int) + 1 := by omega
      rw [whileN_more (st' := [some (.d (N (b + 1))), some (.d (N (a % (b + 1))))]) (by simp [h]) (by
        simp [h]) hn]
      rw [Nat.gcd_comm a (b + 1), Nat.gcd_rec (b + 1) a, Nat.gcd_comm]
theorem common_ok (a b : Nat) : m__law_common [.d (N a), .d (N b)] = some (.d (N (Nat.gcd a b)), []) := by
  obtain ⟨n, hn⟩ := common_while b a
  have h := dWhile_of hn
  simp [m__law_common, g__law_common, run_ap, startD, h]
/-! ## fractions -/
theorem lodds_ok (a b : Nat) (hb : 0 < b) (hl : Sm 8000 b) : m__law_odds [.d (N a), .d (N b)] = some (.d (Q (mkRat a b)), []) := by
  have hg : 0 < Nat.gcd a b := Nat.gcd_pos_of_pos_right a hb
  have hg' : (0 : Int) < (Nat.gcd a b : Int) := by omega
  have hl' : (Nat.gcd a b).log2 < 9000 := Nat.lt_of_le_of_lt (hl.le (Nat.gcd_le_right a hb)).log (by omega)
  obtain ⟨e1, e2⟩ := P.mk_num a b hb
  simp [m__law_odds, g__law_odds, run_ap, startD, common_ok, hg, hl', DL.sizeLine_eq, Q, e1, e2]
theorem odds_of_ok (a b : Nat) (hb : 0 < b) (hl : Sm 8000 b) : m_odds_of [.d (N a), .d (N b)] = some (.d (Q (mkRat a b)), []) := by
  have h : (1 : Int) ≤ b := by omega
  have c1 := P.countN_ok a
  have c2 : P.m_is_count [.d (.int (b : Nat)), .d (.int 1)] = some (.d (.bool true), []) := by
    rw [P.count_ok _ (by simp)]
    simp [h]
  have b1 := P.by_ok a b hb hl
  simp only [N] at b1
  simp [m_odds_of, g_odds_of, run_ap, startD, c1, c2, b1]
theorem is_odds_ok {k : Nat} {r : Rat} (h : Bd k r) : m_is_odds [.d (Q r)] = some (.d (.bool true), []) := by
  obtain ⟨a, e, _, hd⟩ := h.nat
  have h1 : (1 : Int) ≤ r.den := by omega
  have c1 := P.countN_ok a
  have c2 : P.m_is_count [.d (.int (r.den : Nat)), .d (.int 1)] = some (.d (.bool true), []) := by
    rw [P.count_ok _ (by simp)]
    simp [h1]
  have g : Nat.gcd a r.den = 1 := by
    have := r.reduced
    rw [e] at this
    exact this
  have d := P.divisor_ok a r.den
  rw [g] at d
  simp only [N] at d
  simp [m_is_odds, g_is_odds, run_ap, startD, Q, e, c1, c2, d]
theorem below_raw (a b c d : Nat) (h1 : Sm 8000 a) (h2 : Sm 8000 b) (h3 : Sm 8000 c) (h4 : Sm 8000 d) :
    P.m_is_below [.d (.tuple [N a, N b]), .d (.tuple [N c, N d])] = some (.d (.bool (decide (a * d < c * b))), []) := by
  have e : decide ((a : Int) * d < c * b) = decide (a * d < c * b) := by
    congr 1
    rw [← Int.natCast_mul, ← Int.natCast_mul]
    exact propext Int.ofNat_lt
  simp [P.m_is_below, P.g_is_below, run_ap, startD, P.mul_small, h1, h2, h3, h4, e]
@[simp] theorem ix0 (r : Rat) : opIx (Q r) (.int 0) = some (.d (.int r.num)) := rfl
@[simp] theorem ix1 (r : Rat) : opIx (Q r) (.int 1) = some (.d (.int (r.den : Nat))) := rfl
theorem less_ok {j k : Nat} {r s : Rat} (hr : Bd j r) (hs : Bd k s) (hk : j + k ≤ 8000) (hle : s ≤ r) : m__law_less [.d (Q r), .d (Q s)] = some (.d (Q (r - s)), []) ∧ Bd (j + k) (r - s) := by
  obtain ⟨a, e1, s1, p1⟩ := hr.nat
  obtain ⟨c, e2, s2, p2⟩ := hs.nat
  have hle' : c * r.den ≤ a * s.den := by
    rw [Rat.le_iff, e1, e2] at hle
    have : ((c * r.den : Nat) : Int) ≤ ((a * s.den : Nat) : Int) := by simpa using hle
    omega
  have m1 := P.mul_small (s1.mono (by omega)) (hs.d.mono (by omega))
  have m2 := P.mul_small (s2.mono (by omega)) (hr.d.mono (by omega))
  have m3 := P.mul_small (hr.d.mono (by omega)) (hs.d.mono (by omega))
  have h := lodds_ok (a * s.den - c * r.den) (r.den * s.den) (Nat.mul_pos p1 p2) ((hr.d.mul hs.d).mono (by omega))
  have hb := P.bd_mk (k := j + k) (Nat.mul_pos p1 p2) ((s1.mul hs.d).le (Nat.sub_le _ (c * r.den))) (hr.d.mul hs.d)
  rw [P.sub_mk e1 e2 hle'] at h hb
  refine ⟨?_, hb⟩
  simp only [N, Int.natCast_sub hle', Int.natCast_mul] at h
  simp [m__law_less, g__law_less, run_ap, startD, e1, e2, m1, m2, m3, h]
theorem ne_nil : opNe (.list []) (.list []) = some (.d (.bool false)) := rfl
theorem eq_nil : opEq (.list []) (.list []) = some (.d (.bool true)) := rfl
theorem fm_none : ∀ xs : List D, xs.filterMap (fun _ => (none : Option D)) = []
  | [] => rfl
  | x :: r => by rw [List.filterMap_cons, fm_none r]
def okS : Nat → D → Prop
  | _, .none => True
  | _, .bool _ => True
  | _, .int _ => True
  | n + 1, .list xs => xs.length ≤ 1000 ∧ ∀ y ∈ xs, okS n y
  | n + 1, .tuple xs => xs.length ≤ 1000 ∧ ∀ y ∈ xs, okS n y
  | _, _ => False
theorem same_ok : ∀ (n : Nat) (x : D), okS n x → m__law_same (n + 1) [.d x, .d x] = some (.d (.bool true), [])
  | n, .none, _ => by simp [m__law_same, g__law_same, run_ap, startD, isTy, tyName]
  | n, .bool b, _ => by cases b <;> simp [m__law_same, g__law_same, run_ap, startD, isTy, tyName]
  | n, .int i, _ => by simp [m__law_same, g__law_same, run_ap, startD, isTy, tyName]
  | 0, .list xs, h => by cases h
  | 0, .tuple xs, h => by cases h
  | n + 1, .list xs, h => by
    obtain ⟨hl, hx⟩ := (show xs.length ≤ 1000 ∧ ∀ y ∈ xs, okS n y from h)
    have r := range_ok (t := xs.length) (by omega)
    have hl2 : xs.length ≤ 16777216 := by omega
    have go := lc_map (g := DL.gName 2) (t := dNot (dTest (dCall (m__law_same (n + 1)) [false, false] [] (dCons (dOp2 opIx (dVar 0) (dVar 2)) (dCons (dOp2 opIx (dVar 1) (dVar 2)) (dNil)))))) (e := dVar 2) (vs := [2]) (fun _ => none) (xs := (List.range xs.length).map fun i => .int (i : Nat)) (st := [some (.d (.list xs)), some (.d (.list xs)), none]) fun y hy => by
      obtain ⟨p, hp, rfl⟩ := List.mem_map.mp hy
      have hp := List.mem_range.mp hp
      have e := P.ix_l xs hp
      have s := same_ok n xs[p] (hx _ (List.getElem_mem hp))
      simp only [N] at e
      simp [okP_some, e, s, -opIx_li]
    rw [fm_none] at go
    show DL.run 3 (g__law_same (m__law_same (n + 1))) _ = _
    simp [g__law_same, run_ap, startD, isTy, tyName, r, go, DL.opNe_bb, DL.sizeLine_eq, hl2, eq_nil, -iRange1_i]
  | n + 1, .tuple xs, h => by
    obtain ⟨hl, hx⟩ := (show xs.length ≤ 1000 ∧ ∀ y ∈ xs, okS n y from h)
    have r := range_ok (t := xs.length) (by omega)
    have hl2 : xs.length ≤ 16777216 := by omega
    have go := lc_map (g := DL.gName 2) (t := dNot (dTest (dCall (m__law_same (n + 1)) [false, false] [] (dCons (dOp2 opIx (dVar 0) (dVar 2)) (dCons (dOp2 opIx (dVar 1) (dVar 2)) (dNil)))))) (e := dVar 2) (vs := [2]) (fun _ => none) (xs := (List.range xs.length).map fun i => .int (i : Nat)) (st := [some (.d (.tuple xs)), some (.d (.tuple xs)), none]) fun y hy => by
      obtain ⟨p, hp, rfl⟩ := List.mem_map.mp hy
      have hp := List.mem_range.mp hp
      have e := P.ix_t xs hp
      have s := same_ok n xs[p] (hx _ (List.getElem_mem hp))
      simp only [N] at e
      simp [okP_some, e, s, -opIx_ti]
    rw [fm_none] at go
    show DL.run 3 (g__law_same (m__law_same (n + 1))) _ = _
    simp [g__law_same, run_ap, startD, isTy, tyName, r, go, DL.opNe_bb, DL.sizeLine_eq, hl2, eq_nil, -iRange1_i]
  | n, .str _, h => by cases n <;> cases h
  | n, .dict _, h => by cases n <;> cases h
theorem Gen.up {n m : Nat} {P : List D} (h : Gen n P) (hm : n ≤ m) : Gen m P := by
  obtain ⟨a, b, c, d, e, f⟩ := h
  exact ⟨a, b, c, d, e, by omega⟩
open P (Ns tab Q sh Bd)
theorem least {p : Nat → Prop} : ∀ B : Nat, p B → ∃ K, K ≤ B ∧ p K ∧ ∀ j, j < K → ¬ p j
  | 0, h => ⟨0, Nat.le_refl _, h, fun j hj => by omega⟩
  | B + 1, h => by
    by_cases c : p B
    · obtain ⟨K, h1, h2, h3⟩ := least B c
      exact ⟨K, by omega, h2, h3⟩
    · by_cases d : ∃ j, j < B + 1 ∧ p j
      · obtain ⟨j, hj, pj⟩ := d
        obtain ⟨K, h1, h2, h3⟩ := least j pj
        exact ⟨K, by omega, h2, h3⟩
      · exact ⟨B + 1, Nat.le_refl _, h, fun j hj pj => d ⟨j, hj, pj⟩⟩
  termination_by B => B
/-- the least count of parts of u that is not below a / b -/
def cl (a b u : Nat) : Nat := (a * u + b - 1) / b
theorem cl_le {a b u : Nat} (hb : 0 < b) : a * u ≤ cl a b u * b ∧ cl a b u * b < a * u + b := by
  unfold cl
  have h1 := Nat.div_add_mod (a * u + b - 1) b
  have h2 := Nat.mod_lt (a * u + b - 1) hb
  rw [Nat.mul_comm b] at h1
  constructor <;> omega
theorem cl_neg {a b u : Nat} (hb : 0 < b) : (0 : Int) - (0 - (a * u : Nat) : Int) / (b : Nat) = (cl a b u : Nat) := by
  obtain ⟨h1, h2⟩ := cl_le (a := a) (u := u) hb
  have e : ((0 - (a * u : Nat) : Int)) / (b : Nat) = -(cl a b u : Nat) := by
    have h3 : ((cl a b u * b : Nat) : Int) = (cl a b u : Int) * (b : Int) := by simp
    have hb' : (0 : Int) < (b : Nat) := by omega
    have t1 : (-(cl a b u : Nat) : Int) * (b : Nat) = -((cl a b u * b : Nat) : Int) := by rw [h3]; simp [Int.neg_mul]
    rw [Int.ediv_eq_iff_of_pos hb']
    constructor
    · omega
    · omega
  rw [e]
  omega
def hit (a b c d u : Nat) : Prop := cl a b u * d < c * u
theorem hit_of {a b c d u : Nat} (hb : 0 < b) (hd : 0 < d) (h : a * d < c * b) (hu : b * d ≤ u) : hit a b c d u := by
  obtain ⟨_, h2⟩ := cl_le (a := a) (u := u) hb
  unfold hit
  have h3 : cl a b u * b * d < (a * u + b) * d := Nat.mul_lt_mul_of_pos_right h2 hd
  have h4 : (a * u + b) * d ≤ c * u * b := by
    have : (a * d + 1) * u ≤ c * b * u := Nat.mul_le_mul_right _ h
    calc (a * u + b) * d = a * d * u + b * d := by grind
      _ ≤ a * d * u + u := by omega
      _ = (a * d + 1) * u := by grind
      _ ≤ c * b * u := this
      _ = c * u * b := by grind
  have h5 : cl a b u * d * b < c * u * b := by
    calc cl a b u * d * b = cl a b u * b * d := by grind
      _ < (a * u + b) * d := h3
      _ ≤ c * u * b := h4
  exact Nat.lt_of_mul_lt_mul_right h5
theorem mul_ok {a b : Nat} (ha : Sm 8000 a) (hb : Sm 8000 b) : opMul (.int (a : Nat)) (.int (b : Nat)) = some (.d (.int ((a * b : Nat) : Int))) := by
  simp [P.mul_small ha hb]
theorem whileN_ret {t : DT} {b : DS} {n : Nat} {st s2 : DSt} {r : Rt} (ht : t st = some (true, st)) (hb : b st = some (.rt r, s2)) : whileN t b (n + 1) st = some (.rt r, s2) := by
  simp only [whileN, ht, hb, Option.bind_some, if_true]
theorem below_u {k : Nat} {r : Rat} (h : Bd k r) (hk : k ≤ 8000) {t u : Nat} (ht : Sm 8000 t) (hu : Sm 8000 u) : P.m_is_below [.d (.tuple [.int (t : Nat), .int (u : Nat)]), .d (Q r)] = some (.d (.bool (decide (t * r.den < r.num.toNat * u))), []) := by
  obtain ⟨c, e, s, _⟩ := h.nat
  have hq : Q r = .tuple [N c, N r.den] := by unfold Q; rw [e]
  have := below_raw t u c r.den ht hu (s.mono hk) (h.d.mono hk)
  rw [hq, e]
  exact this
theorem short_law {low high : Rat} {a c : Nat} (ha : low.num = a) (hc : high.num = c) (bl : Bd 140 low) (bh : Bd 140 high) : ∀ (m j : Nat) (o : Option SV), nd o = true → j + m ≤ 300 → (∀ i, i < m → ¬ hit a low.den c high.den (2 ^ (j + i))) → hit a low.den c high.den (2 ^ (j + m)) →
    ∃ n s, whileN (dTest (dC (.bool true))) (dSeq (dSet 3 (dOp2 opDiv (dOp2 opSub (dOp2 opAdd (dOp2 opMul (dOp2 opIx (dVar 0) (dC (.int 0))) (dVar 2)) (dOp2 opIx (dVar 0) (dC (.int 1)))) (dC (.int 1))) (dOp2 opIx (dVar 0) (dC (.int 1))))) (dSeq (dIfS (dTest (dCall m__law_below [false, false] [] (dCons (dTup (dCons (dVar 3) (dCons (dVar 2) (dNil)))) (dCons (dVar 1) (dNil))))) (dRet (dTup (dCons (dCall m__law_odds [false, false] [] (dCons (dVar 3) (dCons (dVar 2) (dNil)))) (dCons (dVar 2) (dNil))))) (dNext)) (dSet 2 (dOp2 opMul (dVar 2) (dC (.int 2)))))) n [some (.d (Q low)), some (.d (Q high)), some (.d (N (2 ^ j))), o] =
      some (.rt (.d (.tuple [Q (mkRat (cl a low.den (2 ^ (j + m)) : Nat) (2 ^ (j + m))), N (2 ^ (j + m))])), s) := by
  have sa : Sm 140 a := by have := bl.n; rw [ha] at this; simpa using this
  have turn : ∀ j, j ≤ 300 → ∃ x : Nat, x = 2 ^ j ∧ Sm 301 x ∧ Sm 450 (cl a low.den x) ∧ opMul (.int a) (.int (x : Nat)) = some (.d (.int ((a * x : Nat) : Int))) ∧ ((a : Int) * (x : Int) + low.den - 1) / (low.den : Nat) = (cl a low.den x : Nat) ∧ low.den.log2 < 9000 := fun j hj => by
    have sx : Sm 301 (2 ^ j) := Nat.lt_of_le_of_lt (Nat.pow_le_pow_right (by decide) hj) (by rw [Nat.pow_succ]; omega)
    refine ⟨2 ^ j, rfl, sx, ?_, mul_ok (sa.mono (by decide)) (sx.mono (by decide)), ?_, Nat.lt_of_le_of_lt bl.d.log (by decide)⟩
    · have := (cl_le (a := a) (u := 2 ^ j) low.den_pos).2
      have h1 : cl a low.den (2 ^ j) ≤ a * 2 ^ j + low.den := by
        have : cl a low.den (2 ^ j) ≤ cl a low.den (2 ^ j) * low.den := Nat.le_mul_of_pos_right _ low.den_pos
        omega
      exact ((Sm.add (sa.mul sx) (bl.d.mono (by decide))).mono (by decide)).le h1
    · unfold cl
      have : ((a * 2 ^ j + low.den - 1 : Nat) : Int) = (a : Int) * ((2 ^ j : Nat) : Int) + low.den - 1 := by
        have := low.den_pos
        rw [Int.natCast_sub (by omega)]
        simp
      rw [← this]
      rfl
  have hd := low.den_pos
  have hd' : (0 : Int) < low.den := by omega
  intro m
  induction m with
  | zero =>
    intro j o no hj _ hh
    obtain ⟨x, hx, sx, sc, e1, e2, e3⟩ := turn j (by omega)
    rw [Nat.add_zero, ← hx] at hh ⊢
    have b := below_u bh (by decide) (sc.mono (by decide)) (sx.mono (by decide))
    have hh' : cl a low.den x * high.den < high.num.toNat * x := by rw [hc]; exact hh
    have od := lodds_ok (cl a low.den x) x (by rw [hx]; exact Nat.two_pow_pos j) (sx.mono (by decide))
    simp only [N, Int.natCast_mul] at e1 od
    refine ⟨1, [some (.d (Q low)), some (.d (Q high)), some (.d (N x)), some (.d (N (cl a low.den x)))], whileN_ret (by simp) ?_⟩
    simp [kSetS_nd no, ha, e1, e2, e3, hd, hd', b, hh', od, DL.sizeLine_eq, -opMul_ii]
  | succ m ih =>
    intro j o no hj hn hh
    obtain ⟨x, hx, sx, sc, e1, e2, e3⟩ := turn j (by omega)
    have b := below_u bh (by decide) (sc.mono (by decide)) (sx.mono (by decide))
    have hh' : ¬ cl a low.den x * high.den < high.num.toNat * x := by rw [hc, hx]; exact hn 0 (by omega)
    obtain ⟨n, s, e⟩ := ih (j + 1) (some (.d (N (cl a low.den x)))) rfl (by omega) (fun i hi => by
      have := hn (i + 1) (by omega)
      rw [show j + 1 + i = j + (i + 1) by omega]
      exact this) (by rw [show j + 1 + m = j + (m + 1) by omega]; exact hh)
    rw [show j + 1 + m = j + (m + 1) by omega] at e
    have m2 : opMul (.int (x : Nat)) (.int 2) = some (.d (.int ((x * 2 : Nat) : Int))) := mul_ok (b := 2) (sx.mono (by decide)) ((sm_of (a := 2) 2 (by decide)).mono (by decide))
    have px : (2 ^ (j + 1) : Nat) = x * 2 := by rw [hx, Nat.pow_succ]
    rw [px] at e
    rw [← hx]
    simp only [N, Int.natCast_mul] at e1 m2
    refine ⟨n + 1, s, whileN_more (by simp) ?_ e⟩
    simp [kSetS_nd no, ha, e1, e2, e3, hd, hd', b, hh', m2, DL.sizeLine_eq, -opMul_ii]
open P (Ns tab Q sh Bd)
theorem short_prog {low high : Rat} {a c : Nat} {o2 : Option SV} (ha : low.num = a) (hc : high.num = c) (bl : Bd 140 low) (bh : Bd 140 high) : ∀ (m j : Nat) (o : Option SV), nd o = true → j + m ≤ 300 → (∀ i, i < m → ¬ hit a low.den c high.den (2 ^ (j + i))) → hit a low.den c high.den (2 ^ (j + m)) →
    ∃ n s, whileN (dTest (dC (.bool true))) (dSeq (dSet 4 (dOp2 opSub (dC (.int 0)) (dOp2 opDiv (dOp2 opSub (dC (.int 0)) (dOp2 opMul (dOp2 opIx (dVar 0) (dC (.int 0))) (dVar 3))) (dOp2 opIx (dVar 0) (dC (.int 1)))))) (dSeq (dIfS (dTest (dOp2 opLt (dOp2 opMul (dVar 4) (dOp2 opIx (dVar 1) (dC (.int 1)))) (dOp2 opMul (dOp2 opIx (dVar 1) (dC (.int 0))) (dVar 3)))) (dRet (dCall m_odds_of [false, false] [] (dCons (dVar 4) (dCons (dVar 3) (dNil))))) (dNext)) (dSet 3 (dOp2 opMul (dVar 3) (dC (.int 2)))))) n [some (.d (Q low)), some (.d (Q high)), o2, some (.d (N (2 ^ j))), o] =
      some (.rt (.d (Q (mkRat (cl a low.den (2 ^ (j + m)) : Nat) (2 ^ (j + m))))), s) := by
  have sa : Sm 140 a := by have := bl.n; rw [ha] at this; simpa using this
  have sc0 : Sm 140 c := by have := bh.n; rw [hc] at this; simpa using this
  have hd := low.den_pos
  have hd' : (0 : Int) < low.den := by omega
  have turn : ∀ j, j ≤ 300 → ∃ x : Nat, x = 2 ^ j ∧ Sm 301 x ∧ Sm 450 (cl a low.den x) ∧ opMul (.int a) (.int (x : Nat)) = some (.d (.int ((a * x : Nat) : Int))) ∧ -(-((a : Int) * (x : Int)) / (low.den : Nat)) = (cl a low.den x : Nat) ∧ low.den.log2 < 9000 := fun j hj => by
    have sx : Sm 301 (2 ^ j) := Nat.lt_of_le_of_lt (Nat.pow_le_pow_right (by decide) hj) (by rw [Nat.pow_succ]; omega)
    refine ⟨2 ^ j, rfl, sx, ?_, mul_ok (sa.mono (by decide)) (sx.mono (by decide)), ?_, Nat.lt_of_le_of_lt bl.d.log (by decide)⟩
    · have := (cl_le (a := a) (u := 2 ^ j) low.den_pos).2
      have h1 : cl a low.den (2 ^ j) ≤ a * 2 ^ j + low.den := by
        have : cl a low.den (2 ^ j) ≤ cl a low.den (2 ^ j) * low.den := Nat.le_mul_of_pos_right _ low.den_pos
        omega
      exact ((Sm.add (sa.mul sx) (bl.d.mono (by decide))).mono (by decide)).le h1
    · have := cl_neg (a := a) (b := low.den) (u := 2 ^ j) hd
      rw [Int.zero_sub, Int.zero_sub, Int.natCast_mul] at this
      exact this
  intro m
  induction m with
  | zero =>
    intro j o no hj _ hh
    obtain ⟨x, hx, sx, sc, e1, e2, e3⟩ := turn j (by omega)
    rw [Nat.add_zero, ← hx] at hh ⊢
    have m2 := mul_ok (a := cl a low.den x) (b := high.den) (sc.mono (by decide)) (bh.d.mono (by decide))
    have m3 := mul_ok (a := c) (b := x) (sc0.mono (by decide)) (sx.mono (by decide))
    have hh' : (cl a low.den x : Int) * (high.den : Int) < (c : Int) * (x : Int) := by
      have : ((cl a low.den x * high.den : Nat) : Int) < ((c * x : Nat) : Int) := Int.ofNat_lt.mpr hh
      simpa using this
    have od := odds_of_ok (cl a low.den x) x (by rw [hx]; exact Nat.two_pow_pos j) (sx.mono (by decide))
    simp only [N, Int.natCast_mul] at e1 od m2 m3
    refine ⟨1, [some (.d (Q low)), some (.d (Q high)), o2, some (.d (N x)), some (.d (N (cl a low.den x)))], whileN_ret (by simp) ?_⟩
    simp [kSetS_nd no, ha, hc, e1, e2, e3, hd, hd', hh', od, m2, m3, DL.sizeLine_eq, -opMul_ii]
  | succ m ih =>
    intro j o no hj hn hh
    obtain ⟨x, hx, sx, sc, e1, e2, e3⟩ := turn j (by omega)
    have m2 := mul_ok (a := cl a low.den x) (b := high.den) (sc.mono (by decide)) (bh.d.mono (by decide))
    have m3 := mul_ok (a := c) (b := x) (sc0.mono (by decide)) (sx.mono (by decide))
    have hh' : ¬ (cl a low.den x : Int) * (high.den : Int) < (c : Int) * (x : Int) := by
      have h0 := hn 0 (by omega)
      rw [Nat.add_zero, ← hx] at h0
      unfold hit at h0
      have : ¬ ((cl a low.den x * high.den : Nat) : Int) < ((c * x : Nat) : Int) := fun z => h0 (Int.ofNat_lt.mp z)
      simpa using this
    obtain ⟨n, s, e⟩ := ih (j + 1) (some (.d (N (cl a low.den x)))) rfl (by omega) (fun i hi => by
      have := hn (i + 1) (by omega)
      rw [show j + 1 + i = j + (i + 1) by omega]
      exact this) (by rw [show j + 1 + m = j + (m + 1) by omega]; exact hh)
    rw [show j + 1 + m = j + (m + 1) by omega] at e
    have m4 : opMul (.int (x : Nat)) (.int 2) = some (.d (.int ((x * 2 : Nat) : Int))) := mul_ok (b := 2) (sx.mono (by decide)) ((sm_of (a := 2) 2 (by decide)).mono (by decide))
    have px : (2 ^ (j + 1) : Nat) = x * 2 := by rw [hx, Nat.pow_succ]
    rw [px] at e
    rw [← hx]
    simp only [N, Int.natCast_mul] at e1 m2 m3 m4
    refine ⟨n + 1, s, whileN_more (by simp) ?_ e⟩
    simp [kSetS_nd no, ha, hc, e1, e2, e3, hd, hd', hh', m2, m3, m4, DL.sizeLine_eq, -opMul_ii]
theorem r_low {low D U X q : Rat} (dp : 0 < D) (up : 0 < U) (h1 : low * D * U ≤ X * D) (hq : q * U = X) : low * U ≤ X ∧ low ≤ q := by
  have k1 : low * U ≤ X := Rat.le_of_mul_le_mul_right (c := D) (by grind) dp
  exact ⟨k1, Rat.le_of_mul_le_mul_right (c := U) (by rw [hq]; exact k1) up⟩
theorem r_high {high E U X q : Rat} (hp : 0 < E) (up : 0 < U) (h1 : X * E < high * E * U) (hq : q * U = X) : q < high := by
  have k3 : X < high * U := Rat.lt_of_mul_lt_mul_right (c := E) (by grind) (by grind)
  exact Rat.lt_of_mul_lt_mul_right (c := U) (by rw [hq]; exact k3) (by grind)
theorem r_near {low high D E V X : Rat} (dp : 0 < D) (hp : 0 < E) (h1 : high * E * V ≤ X * E) (h2 : X * D < low * D * V + D) : (high - low) * (V * 2) < 2 := by
  have n4 : high * V ≤ X := Rat.le_of_mul_le_mul_right (c := E) (by grind) hp
  have n5 : X < low * V + 1 := Rat.lt_of_mul_lt_mul_right (c := D) (by grind) (by grind)
  grind
/-- low and high of the law -/
structure Sp (low high : Rat) : Prop where
  bl : Bd 140 low
  bh : Bd 140 high
  lt : low < high
  le : high ≤ 1
theorem short_ok {low high : Rat} (h : Sp low high) : ∃ K u : Nat, ∃ s : Rat, u = 2 ^ K ∧ K ≤ 290 ∧ Bd 460 s ∧ low ≤ s ∧ s < high ∧ (high - low) * (u : Rat) < 2 ∧ m__law_shortest [.d (Q low), .d (Q high)] = some (.d (.tuple [Q s, N u]), []) ∧ m_shortest_draw [.d (Q low), .d (Q high)] = some (.d (Q s), []) := by
  obtain ⟨a, ha, sa, _⟩ := h.bl.nat
  obtain ⟨c, hc, sc, _⟩ := h.bh.nat
  have lt : a * high.den < c * low.den := by
    have := h.lt
    rw [Rat.lt_iff, ha, hc] at this
    exact_mod_cast this
  have big : hit a low.den c high.den (2 ^ 280) := hit_of low.den_pos high.den_pos lt (by
    have := (h.bl.d.mul h.bh.d)
    exact Nat.le_of_lt (this.mono (by decide : 140 + 140 ≤ 280)))
  obtain ⟨K, hK, hk1, hk2⟩ := least (p := fun j => hit a low.den c high.den (2 ^ j)) 280 big
  obtain ⟨n1, s1, e1⟩ := short_law ha hc h.bl h.bh K 0 none rfl (by omega) (fun i hi => by rw [Nat.zero_add]; exact hk2 i hi) (by rw [Nat.zero_add]; exact hk1)
  obtain ⟨n2, s2, e2⟩ := short_prog (o2 := some (.d (Q high))) ha hc h.bl h.bh K 0 none rfl (by omega) (fun i hi => by rw [Nat.zero_add]; exact hk2 i hi) (by rw [Nat.zero_add]; exact hk1)
  rw [Nat.zero_add] at e1 e2
  obtain ⟨u, hu⟩ : ∃ u, u = 2 ^ K := ⟨_, rfl⟩
  have u0 : 0 < u := by rw [hu]; exact Nat.two_pow_pos K
  have su : Sm 281 u := by
    rw [hu]
    exact Nat.lt_of_le_of_lt (Nat.pow_le_pow_right (by decide) hK) (by rw [Nat.pow_succ]; omega)
  rw [← hu] at e1 e2 hk1
  obtain ⟨c1, c2⟩ := cl_le (a := a) (u := u) low.den_pos
  have scl : Sm 450 (cl a low.den u) := by
    have h1 : cl a low.den u ≤ a * u + low.den := by
      have : cl a low.den u ≤ cl a low.den u * low.den := Nat.le_mul_of_pos_right _ low.den_pos
      omega
    exact ((Sm.add (sa.mul su) (h.bl.d.mono (by decide))).mono (by decide)).le h1
  have w1 := dWhile_of e1
  have w2 := dWhile_of e2
  have ur : (u : Rat) ≠ 0 := by
    intro z
    have : u = 0 := by exact_mod_cast z
    omega
  have up : (0 : Rat) < (u : Rat) := by exact_mod_cast u0
  have dp : (0 : Rat) < (low.den : Rat) := by exact_mod_cast low.den_pos
  have hp : (0 : Rat) < (high.den : Rat) := by exact_mod_cast high.den_pos
  have lq : low = (a : Rat) / (low.den : Rat) := by
    have := P.rat_mk low
    rw [ha, Rat.mkRat_eq_div] at this
    exact this.symm
  have hq : high = (c : Rat) / (high.den : Rat) := by
    have := P.rat_mk high
    rw [hc, Rat.mkRat_eq_div] at this
    exact this.symm
  have sq : mkRat (cl a low.den u : Nat) u = (cl a low.den u : Rat) / (u : Rat) := by
    rw [Rat.mkRat_eq_div]
    rfl
  have r1 : (a : Rat) * u ≤ (cl a low.den u : Rat) * low.den := by exact_mod_cast c1
  have r2 : (cl a low.den u : Rat) * low.den < (a : Rat) * u + low.den := by exact_mod_cast c2
  have r3 : (cl a low.den u : Rat) * high.den < (c : Rat) * u := by exact_mod_cast hk1
  have l1 : low * (low.den : Rat) = a := by grind
  have l2 : high * (high.den : Rat) = c := by grind
  obtain ⟨q, hqs⟩ : ∃ q : Rat, q = mkRat (cl a low.den u : Nat) u := ⟨_, rfl⟩
  have qu : q * (u : Rat) = (cl a low.den u : Rat) := by rw [hqs, sq]; grind
  have k2 : low ≤ q := (r_low dp up (by rw [l1]; exact r1) qu).2
  have k4 : q < high := r_high hp up (by rw [l2]; exact r3) qu
  have k5 : (high - low) * (u : Rat) < 2 := by
    cases K with
    | zero =>
      have : u = 1 := by rw [hu]
      subst this
      have h1 := h.le
      have h2 := h.bl.nn
      have : ((1 : Nat) : Rat) = 1 := rfl
      rw [this, Rat.mul_one]
      clear e1 e2 w1 w2 hk2 r1 r2 r3 l1 l2 lq hq
      grind
    | succ K =>
      have nh := hk2 K (by omega)
      obtain ⟨v, hv⟩ : ∃ v, v = 2 ^ K := ⟨_, rfl⟩
      rw [← hv] at nh
      have uv : u = v * 2 := by rw [hu, hv, Nat.pow_succ]
      obtain ⟨_, d2⟩ := cl_le (a := a) (u := v) low.den_pos
      unfold hit at nh
      have n1 : c * v ≤ cl a low.den v * high.den := Nat.not_lt.mp nh
      have n2 : (c : Rat) * v ≤ (cl a low.den v : Rat) * high.den := by exact_mod_cast n1
      have n3 : (cl a low.den v : Rat) * low.den < (a : Rat) * v + low.den := by exact_mod_cast d2
      have n6 := r_near (low := low) (high := high) (V := (v : Rat)) (X := (cl a low.den v : Rat)) dp hp (by rw [l2]; exact n2) (by rw [l1]; exact n3)
      rw [uv]
      push_cast
      exact n6
  rw [← hqs] at w1 w2
  have sb : Bd 460 q := by
    rw [hqs]
    exact P.bd_mk u0 (scl.mono (by decide)) (su.mono (by decide))
  refine ⟨K, u, q, hu, by omega, sb, k2, k4, k5, ?_, ?_⟩
  · simp only [N, show (2 : Nat) ^ 0 = 1 from rfl] at w1
    rw [show ((1 : Nat) : Int) = 1 from rfl] at w1
    simp [m__law_shortest, g__law_shortest, run_ap, startD] at w1 ⊢
    simp [w1]
  · have i1 := is_odds_ok h.bl
    have i2 := is_odds_ok h.bh
    have la : a ≤ low.den := by
      have : low ≤ 1 := by have := h.lt; have := h.le; grind
      rw [Rat.le_iff, ha] at this
      have : (a : Int) * 1 ≤ 1 * (low.den : Int) := this
      omega
    have lc' : c ≤ high.den := by
      have := h.le
      rw [Rat.le_iff, hc] at this
      have : (c : Int) * 1 ≤ 1 * (high.den : Int) := this
      omega
    have m1 := mul_ok (a := a) (b := high.den) (sa.mono (by decide)) (h.bh.d.mono (by decide))
    have m2 := mul_ok (a := c) (b := low.den) (sc.mono (by decide)) (h.bl.d.mono (by decide))
    have nlt : ¬ (c : Int) * (low.den : Int) ≤ (a : Int) * (high.den : Int) := by
      have : ¬ ((c * low.den : Nat) : Int) ≤ ((a * high.den : Nat) : Int) := by omega
      simpa using this
    simp only [N, show (2 : Nat) ^ 0 = 1 from rfl, Int.natCast_mul] at w2 m1 m2
    rw [show ((1 : Nat) : Int) = 1 from rfl] at w2
    have g1 : ¬ (low.den : Int) < a := by omega
    have g2 : ¬ (high.den : Int) < c := by omega
    simp [m_shortest_draw, g_shortest_draw, run_ap, startD, forGo_cons, forGo_nil, i1, i2, ha, hc, la, lc', g1, g2, m1, m2, nlt, w2, DL.sizeLine_eq, -opMul_ii]
open P (Ns tab Q sh Bd)
theorem Q_mk {a b : Nat} (hb : 0 < b) (hg : Nat.gcd a b = 1) : Q (mkRat a b) = .tuple [N a, N b] := by
  obtain ⟨e1, e2⟩ := P.mk_num a b hb
  unfold Q
  rw [e1, e2, hg, Nat.div_one, Nat.div_one]
theorem mk_div (a b : Nat) : mkRat (a : Int) b = (a : Rat) / (b : Rat) := by
  rw [Rat.mkRat_eq_div]
  rfl
theorem mk_lt {a b c d : Nat} (hb : 0 < b) (hd : 0 < d) : mkRat (a : Int) b < mkRat (c : Int) d ↔ a * d < c * b := by
  have b' : (0 : Rat) < (b : Rat) := by exact_mod_cast hb
  have d' : (0 : Rat) < (d : Rat) := by exact_mod_cast hd
  rw [mk_div, mk_div, Rat.div_lt_iff b']
  have e : (c : Rat) / (d : Rat) * (b : Rat) = (c : Rat) * (b : Rat) / (d : Rat) := by grind
  rw [e, Rat.lt_div_iff d']
  constructor
  · intro h; exact_mod_cast h
  · intro h; exact_mod_cast h
theorem mk_one {a b : Nat} (hb : 0 < b) (h : a ≤ b) : mkRat (a : Int) b ≤ 1 := by
  have b' : (0 : Rat) < (b : Rat) := by exact_mod_cast hb
  have e : mkRat (a : Int) b * (b : Rat) = (a : Rat) := by rw [mk_div]; grind
  have h2 : (a : Rat) ≤ (b : Rat) := by exact_mod_cast h
  exact Rat.le_of_mul_le_mul_right (c := (b : Rat)) (by grind) b'
theorem sp_mk {a b c d : Nat} (hb : 0 < b) (hd : 0 < d) (sb : Sm 140 b) (sd : Sm 140 d) (ha : a ≤ b) (hc : c ≤ d) (h : a * d < c * b) : Sp (mkRat a b) (mkRat c d) :=
  ⟨P.bd_mk hb (sb.le ha) sb, P.bd_mk hd (sd.le hc) sd, (mk_lt hb hd).mpr h, mk_one hd hc⟩
def SpanQ (n : Nat) (r : Rt × List (List D)) : Prop := ∃ low high P', Sp low high ∧ Gen (n + 30) P' ∧ r = (.d (.tuple [Q low, Q high]), [P'])
def PowI (z : D) (j0 : Nat) (r : List Nat) (s : DSt) : Prop := ∃ j o, nd o = true ∧ j + r.length = j0 ∧ s = [some (.d z), some (.d (N (2 ^ j))), o]
theorem power_ok {k : Nat} (hk : k ≤ 130) : m__law_power [.d (.int (k : Nat))] = some (.d (N (2 ^ k)), []) := by
  refine okP.eq ?_
  have r := range_ok (t := k) (by omega)
  simp [m__law_power, g__law_power, run_ap, startD, r, -iRange1_i]
  simp only [okP_obind]
  refine for_list (fun i : Nat => PyData.int (i : Nat)) (PowI (.int (k : Nat)) k) (l := List.range k) ⟨0, none, rfl, by simp, rfl⟩ ?_ ?_
  · rintro i r s ⟨j, o, no, hj, rfl⟩
    simp only [List.length_cons] at hj
    obtain ⟨x, hx⟩ : ∃ x : Nat, x = 2 ^ j := ⟨_, rfl⟩
    have sx : Sm 200 x := by
      rw [hx]
      exact Nat.lt_of_le_of_lt (Nat.pow_le_pow_right (by decide) (by omega : j ≤ 130)) (by decide)
    have m := mul_ok (a := x) (b := 2) (sx.mono (by decide)) ((sm_of (a := 2) 2 (by decide)).mono (by decide))
    rw [← hx]
    have m' : opMul (.int (x : Nat)) (.int 2) = some (.d (.int ((x * 2 : Nat) : Int))) := m
    simp only [N, Int.natCast_mul] at m'
    simp [okP_some, kSetS_nd no, m', -opMul_ii]
    refine ⟨j + 1, some (.d (.int (i : Nat))), rfl, by omega, ?_⟩
    rw [Nat.pow_succ, ← hx]
    simp
  · rintro s ⟨j, o, no, hj, rfl⟩
    have : j = k := by simpa using hj
    subst this
    simp [okP_some]
theorem pow30 : opPow (.int 10) (.int 30) = some (.d (.int 1000000000000000000000000000000)) := by simp
theorem pow38 : opPow (.int 10) (.int 38) = some (.d (.int 100000000000000000000000000000000000000)) := by simp
theorem min2 (a b : Nat) : bMin2 [.int (a : Nat), .int (b : Nat)] = some (.d (.int ((min a b : Nat) : Int))) := by
  rw [bMin2_ii]
  congr 3
  split <;> omega
theorem gcd_succ (n : Nat) : Nat.gcd n (n + 1) = 1 := by simp
theorem span_ok {n : Nat} {W : List D} (hn : n ≤ 500000) (hP : Gen n W) : okP (m__law_drawn_span [.m W]) (SpanQ n) := by
  obtain ⟨w, P1, hw, hP1, h1⟩ := random_ok (by omega) hP 5 (by decide) (sm_of 140 (by decide))
  simp only [N] at h1
  rw [show ((5 : Nat) : Int) = 5 from rfl] at h1
  by_cases c4 : w = 4
  · subst c4
    obtain ⟨x, P2, hx, hP2, h2⟩ := random_ok (by omega) hP1 100000000000000000000000000000000000000 (by decide) (sm_of 140 (by decide))
    simp only [N] at h2
    rw [show ((100000000000000000000000000000000000000 : Nat) : Int) = 100000000000000000000000000000000000000 from rfl] at h2
    simp [m__law_drawn_span, g__law_drawn_span, run_ap, startD, h1, h2, pow38, -opPow_ii, DL.sizeLine_eq]
    rw [okP_some]
    refine ⟨mkRat x (x + 1), mkRat (x + 1 : Nat) (x + 2), P2, sp_mk (by omega) (by omega) (sm_of 140 (Nat.lt_trans (by omega : x + 1 < 100000000000000000000000000000000000002) (by decide))) (sm_of 140 (Nat.lt_trans (by omega : x + 2 < 100000000000000000000000000000000000003) (by decide))) (by omega) (by omega) ?_, hP2.up (by omega), ?_⟩
    · have : (x + 1) * (x + 1) = x * (x + 2) + 1 := by grind
      omega
    · rw [Q_mk (by omega) (gcd_succ x), Q_mk (by omega) (gcd_succ (x + 1))]
      rfl
  · by_cases c0 : w = 0
    · subst c0
      obtain ⟨x, P2, hx, hP2, h2⟩ := random_ok (by omega) hP1 6 (by decide) (sm_of 140 (by decide))
      simp only [N] at h2
      rw [show ((6 : Nat) : Int) = 6 from rfl] at h2
      have e : ∃ a b c d : Nat, 0 < b ∧ 0 < d ∧ b ≤ 3 ∧ d ≤ 3 ∧ a ≤ b ∧ c ≤ d ∧ a * d < c * b ∧ Nat.gcd a b = 1 ∧ Nat.gcd c d = 1 ∧ [PyData.tuple [.tuple [.int 0, .int 1], .tuple [.int 1, .int 1]], .tuple [.tuple [.int 0, .int 1], .tuple [.int 1, .int 3]], .tuple [.tuple [.int 1, .int 2], .tuple [.int 1, .int 1]], .tuple [.tuple [.int 1, .int 3], .tuple [.int 1, .int 2]], .tuple [.tuple [.int 1, .int 2], .tuple [.int 2, .int 3]], .tuple [.tuple [.int 0, .int 1], .tuple [.int 1, .int 2]]][x]? = some (.tuple [.tuple [N a, N b], .tuple [N c, N d]]) := by
        match x, hx with
        | 0, _ => exact ⟨0, 1, 1, 1, by decide, by decide, by decide, by decide, by decide, by decide, by decide, by decide, by decide, rfl⟩
        | 1, _ => exact ⟨0, 1, 1, 3, by decide, by decide, by decide, by decide, by decide, by decide, by decide, by decide, by decide, rfl⟩
        | 2, _ => exact ⟨1, 2, 1, 1, by decide, by decide, by decide, by decide, by decide, by decide, by decide, by decide, by decide, rfl⟩
        | 3, _ => exact ⟨1, 3, 1, 2, by decide, by decide, by decide, by decide, by decide, by decide, by decide, by decide, by decide, rfl⟩
        | 4, _ => exact ⟨1, 2, 2, 3, by decide, by decide, by decide, by decide, by decide, by decide, by decide, by decide, by decide, rfl⟩
        | 5, _ => exact ⟨0, 1, 1, 2, by decide, by decide, by decide, by decide, by decide, by decide, by decide, by decide, by decide, rfl⟩
      obtain ⟨a, b, c, d, hb, hd, b3, d3, ha, hc, hl, g1, g2, e⟩ := e
      have hx' : (x : Int) < 6 := by omega
      have ix : opIx (.list [PyData.tuple [.tuple [.int 0, .int 1], .tuple [.int 1, .int 1]], .tuple [.tuple [.int 0, .int 1], .tuple [.int 1, .int 3]], .tuple [.tuple [.int 1, .int 2], .tuple [.int 1, .int 1]], .tuple [.tuple [.int 1, .int 3], .tuple [.int 1, .int 2]], .tuple [.tuple [.int 1, .int 2], .tuple [.int 2, .int 3]], .tuple [.tuple [.int 0, .int 1], .tuple [.int 1, .int 2]]]) (.int (x : Nat)) = some (.d (.tuple [.tuple [N a, N b], .tuple [N c, N d]])) := by
        have h := P.ix_l [PyData.tuple [.tuple [.int 0, .int 1], .tuple [.int 1, .int 1]], .tuple [.tuple [.int 0, .int 1], .tuple [.int 1, .int 3]], .tuple [.tuple [.int 1, .int 2], .tuple [.int 1, .int 1]], .tuple [.tuple [.int 1, .int 3], .tuple [.int 1, .int 2]], .tuple [.tuple [.int 1, .int 2], .tuple [.int 2, .int 3]], .tuple [.tuple [.int 0, .int 1], .tuple [.int 1, .int 2]]] (p := x) hx
        have e2 := (List.getElem?_eq_some_iff.mp e).2
        rw [e2] at h
        exact h
      simp [m__law_drawn_span, g__law_drawn_span, run_ap, startD, h1, h2, DL.sizeLine_eq, ix, -opIx_li]
      rw [okP_some]
      refine ⟨mkRat a b, mkRat c d, P2, sp_mk hb hd (sm_of 140 (Nat.lt_of_le_of_lt b3 (by decide))) (sm_of 140 (Nat.lt_of_le_of_lt d3 (by decide))) ha hc hl, hP2.up (by omega), ?_⟩
      rw [Q_mk hb g1, Q_mk hd g2]
    · have c4' : ¬ (w : Int) = 4 := by omega
      obtain ⟨k0, P2, hk0, hP2, h2⟩ := random_ok (by omega) hP1 130 (by decide) (sm_of 140 (by decide))
      simp only [N] at h2
      rw [show ((130 : Nat) : Int) = 130 from rfl] at h2
      have pw := power_ok (k := 1 + k0) (by omega)
      simp only [N, Int.natCast_add] at pw
      rw [show ((1 : Nat) : Int) = 1 from rfl] at pw
      obtain ⟨y, P3, hy, hP3, h3⟩ := pick_ok (by omega) hP2 [.int 7, .int 12, .int 1000, .int 1000000000000000000000000000000, .int ((2 ^ (1 + k0) : Nat) : Int)] (by simp) (by simp)
      obtain ⟨u, rfl, hu1, hu2⟩ : ∃ k : Nat, y = N k ∧ 2 ≤ k ∧ Sm 135 k := by
        simp only [List.mem_cons, List.not_mem_nil, or_false] at hy
        rcases hy with rfl | rfl | rfl | rfl | rfl
        · exact ⟨7, rfl, by decide, sm_of 135 (by decide)⟩
        · exact ⟨12, rfl, by decide, sm_of 135 (by decide)⟩
        · exact ⟨1000, rfl, by decide, sm_of 135 (by decide)⟩
        · exact ⟨1000000000000000000000000000000, rfl, by decide, sm_of 135 (by decide)⟩
        · exact ⟨2 ^ (1 + k0), rfl, by rw [Nat.pow_add]; have := Nat.two_pow_pos k0; omega, Nat.lt_of_le_of_lt (Nat.pow_le_pow_right (by decide) (by omega : 1 + k0 ≤ 130)) (by decide)⟩
      obtain ⟨l, P4, hl, hP4, h4⟩ := random_ok (by omega) hP3 u (by omega) (hu2.mono (by decide))
      obtain ⟨z, P5, hz, hP5, h5⟩ := pick_ok (by omega) hP4 [.int 1, .int 2, .int 5, N u] (by simp) (by simp)
      obtain ⟨v, rfl, hv1, hv2⟩ : ∃ k : Nat, z = N k ∧ 1 ≤ k ∧ Sm 135 k := by
        simp only [List.mem_cons, List.not_mem_nil, or_false] at hz
        rcases hz with rfl | rfl | rfl | rfl
        · exact ⟨1, rfl, by decide, sm_of 135 (by decide)⟩
        · exact ⟨2, rfl, by decide, sm_of 135 (by decide)⟩
        · exact ⟨5, rfl, by decide, sm_of 135 (by decide)⟩
        · exact ⟨u, rfl, by omega, hu2⟩
      obtain ⟨q, P6, hq, hP6, h6⟩ := random_ok (by omega) hP5 v (by omega) (hv2.mono (by decide))
      have mi := min2 u (l + 1 + q)
      have o1 := lodds_ok l u (by omega) (hu2.mono (by decide))
      have o2 := lodds_ok (min u (l + 1 + q)) u (by omega) (hu2.mono (by decide))
      simp only [N, Int.natCast_add] at h3 h4 h5 h6 mi o1 o2
      rw [show ((1 : Nat) : Int) = 1 from rfl] at mi
      simp only [Int.natCast_pow] at h3 pw
      rw [show ((2 : Nat) : Int) = 2 from rfl] at h3 pw
      simp [m__law_drawn_span, g__law_drawn_span, run_ap, startD, h1, h2, pow30, c4', c4, c0, pw, h3, h4, h5, h6, mi, o1, o2, DL.sizeLine_eq, -opPow_ii, -bMin2_ii]
      rw [okP_some]
      refine ⟨mkRat l u, mkRat (min u (l + 1 + q) : Nat) u, P6, sp_mk (by omega) (by omega) (hu2.mono (by decide)) (hu2.mono (by decide)) (by omega) (by omega) (Nat.mul_lt_mul_of_pos_right (by omega) (by omega)), hP6.up (by omega), rfl⟩
open P (Ns tab Q sh Bd)
theorem okS_Q (n : Nat) (r : Rat) : okS (n + 1) (Q r) := ⟨by simp, fun y hy => by
  simp only [List.mem_cons, List.not_mem_nil, or_false] at hy
  rcases hy with rfl | rfl <;> cases n <;> trivial⟩
theorem below_two {k : Nat} {r : Rat} {u : Nat} (h : Bd k r) (hk : k ≤ 8000) (hu : Sm 8000 u) (h0 : 0 < u) (hr : r * (u : Rat) < 2) : P.m_is_below [.d (Q r), .d (.tuple [.int 2, .int (u : Nat)])] = some (.d (.bool true), []) := by
  obtain ⟨c, e, s, _⟩ := h.nat
  have hq : Q r = .tuple [N c, N r.den] := by unfold Q; rw [e]
  have b := below_raw c r.den 2 u (s.mono hk) (h.d.mono hk) ((sm_of (a := 2) 2 (by decide)).mono (by decide)) hu
  have d0 : (0 : Rat) < (r.den : Rat) := by exact_mod_cast r.den_pos
  have er : r * (r.den : Rat) = (c : Rat) := by
    have := P.rat_mk r
    rw [e, mk_div] at this
    grind
  have lt : c * u < 2 * r.den := by
    have : (c : Rat) * (u : Rat) < 2 * (r.den : Rat) := by
      have h3 := Rat.mul_lt_mul_of_pos_right hr d0
      rw [← er]
      clear er b hq
      grind
    exact_mod_cast this
  rw [hq]
  simp only [N] at b ⊢
  rw [show ((2 : Nat) : Int) = 2 from rfl] at b
  rw [b]
  simp [lt]
def SrQ (n : Nat) (r : Rt × List (List D)) : Prop := ∃ W', Gen (n + 30) W' ∧ r = (.d (.bool true), [W'])
theorem short_right {n : Nat} {W : List D} (hn : n ≤ 500000) (hP : Gen n W) : okP (m__law_short_right [.m W]) (SrQ n) := by
  simp [m__law_short_right, g__law_short_right, run_ap, startD]
  simp only [okP_obind]
  refine (span_ok hn hP).mono fun r hr => ?_
  obtain ⟨low, high, W1, sp, hW1, rfl⟩ := hr
  obtain ⟨K, u, s, hu, hK, sb, k1, k2, k3, e1, e2⟩ := short_ok sp
  have u0 : 0 < u := by rw [hu]; exact Nat.two_pow_pos K
  have su : Sm 291 u := by
    rw [hu]
    exact Nat.lt_of_le_of_lt (Nat.pow_le_pow_right (by decide) hK) (by rw [Nat.pow_succ]; omega)
  have sm := same_ok 7 (Q s) (okS_Q 6 s)
  have b1 := P.below_ok sb sp.bl (by decide)
  have b2 := P.below_ok sb sp.bh (by decide)
  have n1 : ¬ s < low := by grind
  have n2 : low ≤ high := by have := sp.lt; grind
  obtain ⟨l1, l2⟩ := less_ok sp.bh sp.bl (by decide) n2
  have b3 := below_two l2 (by decide) (su.mono (by decide)) u0 k3
  have b4 : P.m_is_below [.d (Q (high - low)), .d (Q (mkRat (2 : Nat) u))] = some (.d (.bool true), []) := by
    have b := P.below_ok l2 (P.bd_mk (k := 291) (a := 2) u0 ((sm_of (a := 2) 2 (by decide)).mono (by decide)) su) (by decide)
    have ur : (0 : Rat) < (u : Rat) := by exact_mod_cast u0
    have lt : high - low < mkRat (2 : Nat) u := by
      rw [show mkRat ((2 : Nat) : Int) u = ((2 : Nat) : Rat) / (u : Rat) from mk_div 2 u, Rat.lt_div_iff ur]
      exact k3
    rw [b]
    simp only [lt, decide_true]
  have o2 := lodds_ok 2 u u0 (su.mono (by decide))
  simp only [N] at o2
  rw [show ((2 : Nat) : Int) = 2 from rfl] at o2
  rw [show ((2 : Nat) : Int) = 2 from rfl] at b4
  by_cases c1 : u = 1
  · subst c1
    simp only [N] at e1
    rw [show ((1 : Nat) : Int) = 1 from rfl] at e1 b3
    simp [okP_some, e1, e2, sm, b1, b2, n1, k2, l1, b3, permute, DL.sizeLine_eq]
    exact ⟨W1, hW1, rfl⟩
  · have c1' : ¬ (u : Int) = 1 := by omega
    simp only [N] at e1
    simp [okP_some, e1, e2, sm, b1, b2, n1, k2, l1, b3, permute, DL.sizeLine_eq, c1', c1, o2, b4]
    exact ⟨W1, hW1, rfl⟩
open P (Ns tab Q sh Bd)
/-! ## spans, plain -/
def pre (ts : List Nat) (i : Nat) : Nat := (ts.take i).sum
theorem pre_zero (ts) : pre ts 0 = 0 := rfl
theorem pre_succ : ∀ (ts : List Nat) (p : Nat), pre ts (p + 1) = pre ts p + ts.getD p 0
  | [], p => by simp [pre]
  | c :: r, 0 => by simp [pre]
  | c :: r, p + 1 => by
    have := pre_succ r p
    unfold pre at this ⊢
    simp only [List.take_succ_cons, List.sum_cons, List.getD_cons_succ]
    omega
theorem pre_len (ts : List Nat) : pre ts ts.length = ts.sum := by simp [pre]
theorem pre_mono (ts : List Nat) {p q : Nat} (h : p ≤ q) : pre ts p ≤ pre ts q := by
  induction h with
  | refl => exact Nat.le_refl _
  | step _ ih => rw [pre_succ]; omega
theorem pre_le {ts : List Nat} {p : Nat} (h : p ≤ ts.length) : pre ts p ≤ ts.sum := by
  rw [← pre_len]
  exact pre_mono ts h
/-- x lies in the stretch of place p -/
structure At (ts : List Nat) (U p x : Nat) : Prop where
  lt : p < ts.length
  lo : pre ts p * U ≤ x
  hi : x < pre ts (p + 1) * U
theorem At.uniq {ts : List Nat} {U p q x : Nat} (h : At ts U p x) (k : At ts U q x) : p = q := by
  apply Classical.byContradiction
  intro z
  rcases Nat.lt_or_gt_of_ne z with c | c
  · have := Nat.mul_le_mul_right U (pre_mono ts (show p + 1 ≤ q from c))
    have := h.hi
    have := k.lo
    omega
  · have := Nat.mul_le_mul_right U (pre_mono ts (show q + 1 ≤ p from c))
    have := h.lo
    have := k.hi
    omega
theorem At.pos {ts : List Nat} {U p x : Nat} (h : At ts U p x) : 0 < ts.getD p 0 := by
  have a := h.lo
  have b := h.hi
  rw [pre_succ, Nat.add_mul] at b
  apply Classical.byContradiction
  intro z
  rw [Nat.eq_zero_of_not_pos z, Nat.zero_mul] at b
  omega
/-- there is one below the end -/
theorem at_ex {ts : List Nat} {U x : Nat} : ∀ n, n ≤ ts.length → x < pre ts n * U → ∃ p, p < n ∧ At ts U p x
  | 0, _, h => by simp [pre] at h
  | n + 1, hn, h => by
    by_cases c : x < pre ts n * U
    · obtain ⟨p, h1, h2⟩ := at_ex n (by omega) c
      exact ⟨p, by omega, h2⟩
    · exact ⟨n, by omega, by omega, by omega, h⟩
abbrev Pc := Nat × Nat × Nat × Nat
def hi2 (ts us : List Nat) (p q : Nat) : Nat := min (pre ts (p + 1) * us.sum) (pre us (q + 1) * ts.sum)
inductive Spn (ts us : List Nat) : Nat → List Pc → Prop
  | nil : Spn ts us (ts.sum * us.sum) []
  | cons {x p q : Nat} {l : List Pc} : At ts us.sum p x → At us ts.sum q x → Spn ts us (hi2 ts us p q) l → Spn ts us x ((x, hi2 ts us p q, p, q) :: l)
section
variable {ts us : List Nat}
theorem At.below {U p x : Nat} (h : At ts U p x) : x < ts.sum * U := Nat.lt_of_lt_of_le h.hi (Nat.mul_le_mul_right _ (pre_le h.lt))
theorem Spn.uniq {x : Nat} {l l' : List Pc} (h : Spn ts us x l) : Spn ts us x l' → l = l' := by
  induction h generalizing l' with
  | nil =>
    intro k
    cases k with
    | nil => rfl
    | cons a b c => exact absurd a.below (Nat.lt_irrefl _)
  | cons a b c ih =>
    intro k
    cases k with
    | nil => exact absurd a.below (Nat.lt_irrefl _)
    | cons a' b' c' =>
      have e1 := a.uniq a'
      have e2 := b.uniq b'
      subst e1
      subst e2
      rw [ih c']
/-- what two stretches of one place share behind x -/
def ov (ts us : List Nat) (x i : Nat) : Nat := min (pre ts (i + 1) * us.sum) (pre us (i + 1) * ts.sum) - max (max (pre ts i * us.sum) (pre us i * ts.sum)) x
theorem ov_step {x p q : Nat} (a : At ts us.sum p x) (b : At us ts.sum q x) (i : Nat) (hi : i < ts.length) (hl : us.length = ts.length) : ov ts us x i = (if p = i ∧ q = i then hi2 ts us p q - x else 0) + ov ts us (hi2 ts us p q) i := by
  have a1 := a.lo
  have a2 := a.hi
  have b1 := b.lo
  have b2 := b.hi
  unfold ov hi2
  by_cases c1 : p = i
  · by_cases c2 : q = i
    · subst c1
      subst c2
      rw [if_pos ⟨rfl, rfl⟩]
      omega
    · rw [if_neg (fun z => c2 z.2)]
      rcases Nat.lt_or_gt_of_ne c2 with d | d
      · have e := Nat.mul_le_mul_right ts.sum (pre_mono us (show q + 1 ≤ i from d))
        omega
      · have e := Nat.mul_le_mul_right ts.sum (pre_mono us (show i + 1 ≤ q from d))
        omega
  · rw [if_neg (fun z => c1 z.1)]
    rcases Nat.lt_or_gt_of_ne c1 with d | d
    · have e := Nat.mul_le_mul_right us.sum (pre_mono ts (show p + 1 ≤ i from d))
      omega
    · have e := Nat.mul_le_mul_right us.sum (pre_mono ts (show i + 1 ≤ p from d))
      omega
def sameL (l : List Pc) : List Pc := l.filter fun z => z.2.2.1 == z.2.2.2
def lenL (l : List Pc) : Nat := (l.map fun z => z.2.1 - z.1).sum
theorem sum_addN {α : Type} (f g : α → Nat) : ∀ l : List α, (l.map fun a => f a + g a).sum = (l.map f).sum + (l.map g).sum
  | [] => rfl
  | x :: r => by
    simp only [List.map_cons, List.sum_cons, sum_addN f g r]
    omega
theorem sum_one (p q d : Nat) : ∀ n, ((List.range n).map fun i => if p = i ∧ q = i then d else 0).sum = if p = q ∧ p < n then d else 0
  | 0 => by simp
  | n + 1 => by
    rw [List.range_succ, List.map_append, List.sum_append, sum_one p q d n]
    simp only [List.map_cons, List.map_nil, List.sum_cons, List.sum_nil]
    by_cases c : p = q
    · subst c
      by_cases d' : p = n
      · subst d'
        simp
      · have : (p = n ∧ p = n) ↔ False := by simp [d']
        by_cases e : p < n
        · have : p < n + 1 := by omega
          simp [e, this, d']
        · have : ¬ p < n + 1 := by omega
          simp [e, this, d']
    · have : ∀ i, ¬ (p = i ∧ q = i) := fun i z => c (z.1.trans z.2.symm)
      simp [c, this]
theorem sum_noughts : ∀ l : List Nat, (l.map fun _ => 0).sum = 0
  | [] => rfl
  | x :: r => by simp only [List.map_cons, List.sum_cons, sum_noughts r]
theorem Spn.same {x : Nat} {l : List Pc} (h : Spn ts us x l) (hl : us.length = ts.length) : lenL (sameL l) = ((List.range ts.length).map (ov ts us x)).sum := by
  induction h with
  | nil =>
    have : ((List.range ts.length).map (ov ts us (ts.sum * us.sum))) = (List.range ts.length).map fun _ => 0 := by
      apply List.map_congr_left
      intro i hi
      have hi := List.mem_range.mp hi
      have := Nat.mul_le_mul_right us.sum (pre_le (ts := ts) (show i + 1 ≤ ts.length from hi))
      unfold ov
      omega
    rw [this, sum_noughts]
    simp [sameL, lenL]
  | cons a b c ih =>
    rename_i x p q l
    have : ((List.range ts.length).map (ov ts us x)) = (List.range ts.length).map fun i => (if p = i ∧ q = i then hi2 ts us p q - x else 0) + ov ts us (hi2 ts us p q) i := by
      apply List.map_congr_left
      intro i hi
      exact ov_step a b i (List.mem_range.mp hi) hl
    rw [this, sum_addN, sum_one, ← ih]
    unfold sameL
    by_cases e : p = q
    · subst e
      rw [List.filter_cons_of_pos (by simp), if_pos ⟨rfl, a.lt⟩]
      simp [lenL]
    · rw [List.filter_cons_of_neg (by simpa using e), if_neg (fun z => e z.1)]
      omega
theorem Spn.le {x : Nat} {l : List Pc} (h : Spn ts us x l) : x ≤ ts.sum * us.sum := by
  cases h with
  | nil => exact Nat.le_refl _
  | cons a b c => exact Nat.le_of_lt a.below
theorem Spn.all {x : Nat} {l : List Pc} (h : Spn ts us x l) : lenL l = ts.sum * us.sum - x := by
  induction h with
  | nil => simp [lenL]
  | cons a b c ih =>
    rename_i x p q l
    have h1 := c.le
    have h2 : x < hi2 ts us p q := by
      have := a.hi
      have := b.hi
      unfold hi2
      omega
    unfold lenL at ih ⊢
    rw [List.map_cons, List.sum_cons, ih]
    show hi2 ts us p q - x + _ = _
    omega
theorem Spn.mem {x : Nat} {l : List Pc} (h : Spn ts us x l) : ∀ z ∈ l, x ≤ z.1 ∧ z.1 < z.2.1 ∧ z.2.1 ≤ ts.sum * us.sum ∧ z.2.2.1 < ts.length ∧ z.2.2.2 < us.length := by
  induction h with
  | nil => intro z hz; simp at hz
  | cons a b c ih =>
    rename_i x p q l
    have h2 : x < hi2 ts us p q := by
      have := a.hi
      have := b.hi
      unfold hi2
      omega
    intro z hz
    rcases List.mem_cons.mp hz with rfl | hz
    · exact ⟨Nat.le_refl _, h2, c.le, a.lt, b.lt⟩
    · obtain ⟨i1, i2, i3, i4, i5⟩ := ih z hz
      exact ⟨by omega, i2, i3, i4, i5⟩
end
theorem ov_le {ts us : List Nat} (i : Nat) : ov ts us 0 i ≤ min (ts.getD i 0 * us.sum) (us.getD i 0 * ts.sum) := by
  unfold ov
  rw [pre_succ, pre_succ, Nat.add_mul, Nat.add_mul]
  omega
theorem ov_two {ts us : List Nat} (hl : us.length = ts.length) (h2 : ts.length ≤ 2) {i : Nat} (hi : i < ts.length) : ov ts us 0 i = min (ts.getD i 0 * us.sum) (us.getD i 0 * ts.sum) := by
  have st : ts.length = i + 1 → pre ts (i + 1) = ts.sum := fun z => by rw [← z, pre_len]
  have su : ts.length = i + 1 → pre us (i + 1) = us.sum := fun z => by rw [← z, ← hl, pre_len]
  have e1 := pre_succ ts i
  have e2 := pre_succ us i
  have m1 : pre ts (i + 1) * us.sum = pre ts i * us.sum + ts.getD i 0 * us.sum := by rw [e1, Nat.add_mul]
  have m2 : pre us (i + 1) * ts.sum = pre us i * ts.sum + us.getD i 0 * ts.sum := by rw [e2, Nat.add_mul]
  have cm := Nat.mul_comm ts.sum us.sum
  unfold ov
  by_cases c : i = 0
  · subst c
    rw [pre_zero, pre_zero, Nat.zero_mul] at *
    rw [Nat.zero_mul] at *
    omega
  · have hi1 : ts.length = i + 1 := by omega
    rw [st hi1, su hi1] at *
    omega
open P (Ns tab Q sh Bd)
def gt (ts : List Nat) (i : Nat) : Nat := ts.getD i 0
theorem gt_at {ts : List Nat} {i : Nat} (h : i < ts.length) : gt ts i = ts[i] := by
  unfold gt
  rw [List.getD_eq_getElem?_getD, List.getElem?_eq_getElem h]
  rfl
theorem pre_gt (ts : List Nat) (p : Nat) : pre ts (p + 1) = pre ts p + gt ts p := pre_succ ts p
def nz (ts : List Nat) : List Nat := (List.range ts.length).filter fun i => decide (0 < gt ts i)
def Ed (ts : List Nat) (U i : Nat) : D := .tuple [N i, N (pre ts i * U), N (pre ts (i + 1) * U)]
theorem nz_mem {ts : List Nat} {i : Nat} : i ∈ nz ts ↔ i < ts.length ∧ 0 < gt ts i := by simp [nz]
theorem nz_lt (ts : List Nat) : (nz ts).Pairwise (· < ·) := List.Pairwise.filter _ List.pairwise_lt_range
theorem pre_same {ts : List Nat} {p q : Nat} (h : p ≤ q) (hz : ∀ i, p ≤ i → i < q → gt ts i = 0) : pre ts q = pre ts p := by
  induction h with
  | refl => rfl
  | step hle ih =>
    rw [pre_gt, ih fun i a b => hz i a (Nat.lt_succ_of_lt b), hz _ hle (Nat.lt_succ_self _), Nat.add_zero]
theorem nz_gap {ts : List Nat} {k : Nat} (h : k + 1 < (nz ts).length) : pre ts (nz ts)[k + 1] = pre ts ((nz ts)[k] + 1) := by
  have pw := List.pairwise_iff_getElem.mp (nz_lt ts)
  have lt := pw k (k + 1) (by omega) h (by omega)
  refine pre_same lt fun i a b => ?_
  apply Classical.byContradiction
  intro z
  have hm : (nz ts)[k + 1] ∈ nz ts := List.getElem_mem h
  have hi : i ∈ nz ts := nz_mem.mpr ⟨by have := (nz_mem.mp hm).1; omega, by omega⟩
  obtain ⟨j, hj, e⟩ := List.mem_iff_getElem.mp hi
  rcases Nat.lt_trichotomy j (k + 1) with c | c | c
  · by_cases d : j = k
    · subst d; omega
    · have := pw j k hj (by omega) (by omega); omega
  · subst c; omega
  · have := pw (k + 1) j h hj c; omega
theorem nz_last {ts : List Nat} {k : Nat} (h : k + 1 = (nz ts).length) : pre ts ((nz ts)[k] + 1) = ts.sum := by
  have pw := List.pairwise_iff_getElem.mp (nz_lt ts)
  have hm : (nz ts)[k] ∈ nz ts := List.getElem_mem (by omega)
  rw [← pre_len]
  refine (pre_same (nz_mem.mp hm).1 fun i a b => ?_).symm
  apply Classical.byContradiction
  intro z
  have hi : i ∈ nz ts := nz_mem.mpr ⟨b, by omega⟩
  obtain ⟨j, hj, e⟩ := List.mem_iff_getElem.mp hi
  by_cases d : j = k
  · subst d; omega
  · have := pw j k hj (by omega) (by omega); omega
def PosAt (ts : List Nat) (U k x : Nat) : Prop := (∃ h : k < (nz ts).length, At ts U (nz ts)[k] x) ∨ (k = (nz ts).length ∧ x = ts.sum * U)
theorem pos_next {ts : List Nat} {U k : Nat} (hU : 0 < U) (h : k < (nz ts).length) : PosAt ts U (k + 1) (pre ts ((nz ts)[k] + 1) * U) := by
  by_cases c : k + 1 < (nz ts).length
  · refine .inl ⟨c, ?_⟩
    have g := nz_gap c
    obtain ⟨m1, m2⟩ := nz_mem.mp (List.getElem_mem c)
    refine ⟨m1, by rw [g]; exact Nat.le_refl _, ?_⟩
    rw [← g]
    exact Nat.mul_lt_mul_of_pos_right (by rw [pre_gt]; omega) hU
  · exact .inr ⟨by omega, by rw [nz_last (by omega)]⟩
theorem pos_zero {ts : List Nat} {U : Nat} (hU : 0 < U) (h0 : 0 < ts.sum) : PosAt ts U 0 0 := by
  obtain ⟨t, ht, t0⟩ := P.sum_pos_mem h0
  obtain ⟨i, hi, e⟩ := List.mem_iff_getElem.mp ht
  have hm : i ∈ nz ts := nz_mem.mpr ⟨hi, by rw [gt_at hi, e]; exact t0⟩
  have hl : 0 < (nz ts).length := List.length_pos_of_mem hm
  refine .inl ⟨hl, ?_⟩
  have pw := List.pairwise_iff_getElem.mp (nz_lt ts)
  have hz : pre ts (nz ts)[0] = 0 := by
    rw [pre_same (p := 0) (Nat.zero_le _) fun i _ b => ?_]
    · rfl
    apply Classical.byContradiction
    intro z
    have h0m := nz_mem.mp (List.getElem_mem hl)
    have hi : i ∈ nz ts := nz_mem.mpr ⟨by omega, by omega⟩
    obtain ⟨j, hj, e⟩ := List.mem_iff_getElem.mp hi
    by_cases d : j = 0
    · subst d; omega
    · have := pw 0 j hl hj (by omega); omega
  obtain ⟨m1, m2⟩ := nz_mem.mp (List.getElem_mem hl)
  refine ⟨m1, by rw [hz, Nat.zero_mul]; exact Nat.le_refl _, ?_⟩
  exact Nat.mul_pos (by rw [pre_gt]; omega) hU
theorem En_range (ts : List Nat) : iEnum [tab ts] = some ((List.range ts.length).map fun i => .tuple [N i, N (gt ts i)]) := by
  show some (((Ns ts).zipIdx).map fun p => PyData.tuple [.int (p.2 : Nat), p.1]) = _
  congr 1
  apply List.ext_getElem
  · simp [Ns]
  · intro i h1 h2
    have hi : i < ts.length := by simpa using h2
    simp [Ns, gt_at hi]
theorem done_len {done r : List Nat} {i L : Nat} (h : done ++ i :: r = List.range L) : i = done.length ∧ i < L := by
  have e : (done ++ i :: r)[done.length]? = some i := by simp
  rw [h] at e
  obtain ⟨h1, h2⟩ := List.getElem?_eq_some_iff.mp e
  simp at h1 h2
  exact ⟨h2.symm, by omega⟩
def EndI (ts : List Nat) (U : Nat) (r : List Nat) (s : DSt) : Prop := ∃ done o4 o5, done ++ r = List.range ts.length ∧ nd o4 = true ∧ nd o5 = true ∧
  s = [some (.d (tab ts)), some (.d (N U)), some (.own ((done.filter fun i => decide (0 < gt ts i)).map (Ed ts U))), some (.d (N (pre ts done.length))), o4, o5]
theorem ends_ok {ts : List Nat} {U : Nat} (hl : ts.length ≤ 1000) (hT : Sm 100 ts.sum) (hU : Sm 100 U) : m_ends_in [.d (tab ts), .d (.int (U : Nat))] = some (.own ((nz ts).map (Ed ts U)), []) := by
  refine okP.eq ?_
  have en := En_range ts
  simp [m_ends_in, g_ends_in, run_ap, startD, DL.sizeLine_eq, en]
  simp only [okP_obind]
  refine for_list (fun i : Nat => PyData.tuple [N i, N (gt ts i)]) (EndI ts U) (l := List.range ts.length) ⟨[], none, none, rfl, rfl, rfl, rfl⟩ ?_ ?_
  · rintro i r s ⟨done, o4, o5, hd, n4, n5, rfl⟩
    obtain ⟨hi, hlt⟩ := done_len hd
    have hdl : done.length < 16777216 := by omega
    have hfl : (done.filter fun i => decide (0 < gt ts i)).length < 16777216 := Nat.lt_of_le_of_lt (List.length_filter_le _ _) hdl
    obtain ⟨c, hc⟩ : ∃ c, c = gt ts i := ⟨_, rfl⟩
    have ps : pre ts (i + 1) = pre ts i + c := by rw [pre_gt, hc]
    have p1 : pre ts (i + 1) ≤ ts.sum := pre_le (by omega)
    have m1 := mul_ok (a := pre ts i) (b := U) ((hT.le (by omega)).mono (by decide)) (hU.mono (by decide))
    have m2 := mul_ok (a := pre ts i + c) (b := U) ((hT.le (by omega)).mono (by decide)) (hU.mono (by decide))
    have key : ∀ (b : Bool), b = decide (0 < c) → EndI ts U r [some (.d (tab ts)), some (.d (N U)), some (.own (((done ++ [i]).filter fun i => decide (0 < gt ts i)).map (Ed ts U))), some (.d (N (pre ts (i + 1)))), some (.d (N i)), some (.d (N c))] := fun b _ =>
      ⟨done ++ [i], _, _, by simp [hd], rfl, rfl, by rw [List.length_append, List.length_singleton, ← hi]⟩
    rw [← hc, ← hi]
    simp only [N, Int.natCast_mul, Int.natCast_add] at m1 m2
    by_cases cz : 0 < c
    · have fe : (done ++ [i]).filter (fun i => decide (0 < gt ts i)) = (done.filter fun i => decide (0 < gt ts i)) ++ [i] := by
        rw [List.filter_append, List.filter_cons_of_pos (by rw [← hc]; simpa using cz)]
        rfl
      have k := key true (by simp [cz])
      rw [fe, List.map_append] at k
      simp only [List.map_cons, List.map_nil, Ed, ps, N, Int.natCast_add, Int.natCast_mul] at k
      simp [okP_some, kSetS_nd n4, kSetS_nd n5, cz, m1, m2, DL.sizeLine_eq, hfl, -opMul_ii]
      exact k
    · have c0 : c = 0 := by omega
      have fe : (done ++ [i]).filter (fun i => decide (0 < gt ts i)) = (done.filter fun i => decide (0 < gt ts i)) := by
        rw [List.filter_append, List.filter_cons_of_neg (by rw [← hc, c0]; decide)]
        simp
      have k := key false (by simp [cz])
      rw [fe] at k
      simp only [ps, N, Int.natCast_add, c0] at k
      subst c0
      simp [okP_some, kSetS_nd n4, kSetS_nd n5]
      simp only [Int.natCast_zero, Int.add_zero] at k
      exact k
  · rintro s ⟨done, o4, o5, hd, n4, n5, rfl⟩
    have hd : done = List.range ts.length := by simpa using hd
    subst hd
    simp [okP_some]
    rfl
open P (Ns tab Q sh Bd)
theorem ixm {α : Type} {f : α → D} {l : List α} {k : Nat} (h : k < l.length) : opIx (.list (l.map f)) (.int (k : Nat)) = some (.d (f l[k])) := by
  have := P.ix_l (l.map f) (p := k) (by simpa using h)
  simpa using this
def pcD (z : Pc) : D := .tuple [N z.1, N z.2.1, N z.2.2.1, N z.2.2.2]
theorem max2 (a b : Nat) : bMax2 [.int (a : Nat), .int (b : Nat)] = some (.d (.int ((max a b : Nat) : Int))) := by
  rw [bMax2_ii]
  congr 3
  split <;> omega
/-- the two that go on side by side -/
structure Two (ts us : List Nat) (a b x : Nat) : Prop where
  p1 : PosAt ts us.sum a x
  p2 : PosAt us ts.sum b x
  lo : ∀ (h1 : a < (nz ts).length) (h2 : b < (nz us).length), max (pre ts (nz ts)[a] * us.sum) (pre us (nz us)[b] * ts.sum) = x
section
variable {ts us : List Nat}
theorem Two.both {a b x : Nat} (h : Two ts us a b x) (h1 : a < (nz ts).length) : ∃ h2 : b < (nz us).length, At ts us.sum (nz ts)[a] x ∧ At us ts.sum (nz us)[b] x := by
  rcases h.p1 with ⟨_, A⟩ | ⟨e, _⟩
  · rcases h.p2 with ⟨h2, B⟩ | ⟨_, e⟩
    · exact ⟨h2, A, B⟩
    · have := A.below
      rw [e, Nat.mul_comm] at this
      exact absurd this (Nat.lt_irrefl _)
  · omega
theorem Two.stop {a b x : Nat} (h : Two ts us a b x) (h1 : ¬ (a < (nz ts).length ∧ b < (nz us).length)) : x = ts.sum * us.sum := by
  by_cases c : a < (nz ts).length
  · obtain ⟨h2, _⟩ := h.both c
    exact absurd ⟨c, h2⟩ h1
  · rcases h.p1 with ⟨c', _⟩ | ⟨_, e⟩
    · exact absurd c' c
    · exact e
theorem Two.next {a b x : Nat} (h0 : 0 < ts.sum) (h0' : 0 < us.sum) (h : Two ts us a b x) (h1 : a < (nz ts).length) (h2 : b < (nz us).length) :
    Two ts us (a + if pre ts ((nz ts)[a] + 1) * us.sum = hi2 ts us (nz ts)[a] (nz us)[b] then 1 else 0) (b + if pre us ((nz us)[b] + 1) * ts.sum = hi2 ts us (nz ts)[a] (nz us)[b] then 1 else 0) (hi2 ts us (nz ts)[a] (nz us)[b]) := by
  obtain ⟨_, A, B⟩ := h.both h1
  have n1 := pos_next h0' h1
  have n2 := pos_next h0 h2
  obtain ⟨p, hp⟩ : ∃ p, p = (nz ts)[a] := ⟨_, rfl⟩
  obtain ⟨q, hq⟩ : ∃ q, q = (nz us)[b] := ⟨_, rfl⟩
  rw [← hp] at A n1 ⊢
  rw [← hq] at B n2 ⊢
  have A1 := A.lo
  have A2 := A.hi
  have B1 := B.lo
  have B2 := B.hi
  have hh : hi2 ts us p q = min (pre ts (p + 1) * us.sum) (pre us (q + 1) * ts.sum) := rfl
  refine ⟨?_, ?_, fun k1 k2 => ?_⟩
  · by_cases c : pre ts (p + 1) * us.sum = hi2 ts us p q
    · rw [if_pos c, ← c]
      exact n1
    · rw [if_neg c, Nat.add_zero]
      exact .inl ⟨h1, by rw [← hp]; exact ⟨A.lt, by omega, by omega⟩⟩
  · by_cases c : pre us (q + 1) * ts.sum = hi2 ts us p q
    · rw [if_pos c, ← c]
      exact n2
    · rw [if_neg c, Nat.add_zero]
      exact .inl ⟨h2, by rw [← hq]; exact ⟨B.lt, by omega, by omega⟩⟩
  · by_cases c : pre ts (p + 1) * us.sum = hi2 ts us p q
    · have e1 : (nz ts)[a + if pre ts (p + 1) * us.sum = hi2 ts us p q then 1 else 0] = (nz ts)[a + 1]'(by rw [if_pos c] at k1; exact k1) := by
        congr 1
        rw [if_pos c]
      have g1 := nz_gap (ts := ts) (k := a) (by rw [if_pos c] at k1; exact k1)
      rw [e1, g1, ← hp, c]
      by_cases d : pre us (q + 1) * ts.sum = hi2 ts us p q
      · have e2 : (nz us)[b + if pre us (q + 1) * ts.sum = hi2 ts us p q then 1 else 0] = (nz us)[b + 1]'(by rw [if_pos d] at k2; exact k2) := by
          congr 1
          rw [if_pos d]
        have g2 := nz_gap (ts := us) (k := b) (by rw [if_pos d] at k2; exact k2)
        rw [e2, g2, ← hq, d]
        omega
      · have e2 : (nz us)[b + if pre us (q + 1) * ts.sum = hi2 ts us p q then 1 else 0] = (nz us)[b] := by
          congr 1
          rw [if_neg d, Nat.add_zero]
        rw [e2, ← hq]
        omega
    · have d : pre us (q + 1) * ts.sum = hi2 ts us p q := by omega
      have e1 : (nz ts)[a + if pre ts (p + 1) * us.sum = hi2 ts us p q then 1 else 0] = (nz ts)[a] := by
        congr 1
        rw [if_neg c, Nat.add_zero]
      have e2 : (nz us)[b + if pre us (q + 1) * ts.sum = hi2 ts us p q then 1 else 0] = (nz us)[b + 1]'(by rw [if_pos d] at k2; exact k2) := by
        congr 1
        rw [if_pos d]
      have g2 := nz_gap (ts := us) (k := b) (by rw [if_pos d] at k2; exact k2)
      rw [e1, e2, g2, ← hq, ← hp, d]
      omega
theorem two_zero (h0 : 0 < ts.sum) (h0' : 0 < us.sum) : Two ts us 0 0 0 := by
  have a := pos_zero h0' h0
  have b := pos_zero h0 h0'
  refine ⟨a, b, fun h1 h2 => ?_⟩
  rcases a with ⟨_, A⟩ | ⟨e, _⟩
  · rcases b with ⟨_, B⟩ | ⟨e, _⟩
    · have := A.lo
      have := B.lo
      omega
    · omega
  · omega
theorem spans_while (hs : Sm 200 (ts.sum * us.sum)) (h0 : 0 < ts.sum) (h0' : 0 < us.sum) (hl1 : (nz ts).length ≤ 1000) (hl2 : (nz us).length ≤ 1000) : ∀ (m a b x : Nat) (F : List Pc) (o7 o8 o9 : Option SV), ((nz ts).length - a) + ((nz us).length - b) = m → a ≤ (nz ts).length → b ≤ (nz us).length → F.length + m ≤ 10000 → Two ts us a b x → nd o7 = true → nd o8 = true → nd o9 = true →
    ∃ n l a' b' o7' o8' o9', Spn ts us x l ∧ whileN (dAnd (dTest (dOp2 opLt (dVar 5) (dCallB bLen (dCons (dVar 2) (dNil))))) (dTest (dOp2 opLt (dVar 6) (dCallB bLen (dCons (dVar 3) (dNil)))))) (dSeq (dPar [7, 8] (dCons (dCallB bMax2 (dCons (dOp2 opIx (dOp2 opIx (dVar 2) (dVar 5)) (dC (.int 1))) (dCons (dOp2 opIx (dOp2 opIx (dVar 3) (dVar 6)) (dC (.int 1))) (dNil)))) (dCons (dCallB bMin2 (dCons (dOp2 opIx (dOp2 opIx (dVar 2) (dVar 5)) (dC (.int 2))) (dCons (dOp2 opIx (dOp2 opIx (dVar 3) (dVar 6)) (dC (.int 2))) (dNil)))) (dNil)))) (dSeq (dAppend 4 (dTup (dCons (dVar 7) (dCons (dVar 8) (dCons (dOp2 opIx (dOp2 opIx (dVar 2) (dVar 5)) (dC (.int 0))) (dCons (dOp2 opIx (dOp2 opIx (dVar 3) (dVar 6)) (dC (.int 0))) (dNil))))))) (dSeq (dSet 9 (dTup (dCons (dOp2 opEq (dOp2 opIx (dOp2 opIx (dVar 2) (dVar 5)) (dC (.int 2))) (dVar 8)) (dCons (dOp2 opEq (dOp2 opIx (dOp2 opIx (dVar 3) (dVar 6)) (dC (.int 2))) (dVar 8)) (dNil))))) (dSeq (dAug opAddI 5 (dCallB bInt (dCons (dOp2 opIx (dVar 9) (dC (.int 0))) (dNil)))) (dAug opAddI 6 (dCallB bInt (dCons (dOp2 opIx (dVar 9) (dC (.int 1))) (dNil)))))))) n
      [some (.d (tab ts)), some (.d (tab us)), some (.d (.list ((nz ts).map (Ed ts us.sum)))), some (.d (.list ((nz us).map (Ed us ts.sum)))), some (.own (F.map pcD)), some (.d (N a)), some (.d (N b)), o7, o8, o9] =
      some (.nx, [some (.d (tab ts)), some (.d (tab us)), some (.d (.list ((nz ts).map (Ed ts us.sum)))), some (.d (.list ((nz us).map (Ed us ts.sum)))), some (.own ((F ++ l).map pcD)), some (.d (N a')), some (.d (N b')), o7', o8', o9']) := by
  intro m
  induction m using Nat.strongRecOn with
  | ind m ih =>
    intro a b x F o7 o8 o9 hm ha hb hF T n7 n8 n9
    by_cases c : a < (nz ts).length ∧ b < (nz us).length
    · obtain ⟨c1, c2⟩ := c
      obtain ⟨_, A, B⟩ := T.both c1
      have lo := T.lo c1 c2
      have T' := T.next h0 h0' c1 c2
      have i1 := ixm (f := Ed ts us.sum) c1
      have i2 := ixm (f := Ed us ts.sum) c2
      obtain ⟨p, hp⟩ : ∃ p, p = (nz ts)[a] := ⟨_, rfl⟩
      obtain ⟨q, hq⟩ : ∃ q, q = (nz us)[b] := ⟨_, rfl⟩
      rw [← hp] at A lo T' i1
      rw [← hq] at B lo T' i2
      obtain ⟨h, hh⟩ : ∃ h, h = hi2 ts us p q := ⟨_, rfl⟩
      rw [← hh] at T'
      obtain ⟨d1, hd1⟩ : ∃ d : Nat, d = if pre ts (p + 1) * us.sum = h then 1 else 0 := ⟨_, rfl⟩
      obtain ⟨d2, hd2⟩ : ∃ d : Nat, d = if pre us (q + 1) * ts.sum = h then 1 else 0 := ⟨_, rfl⟩
      rw [← hd1, ← hd2] at T'
      have hd : 1 ≤ d1 + d2 ∧ d1 ≤ 1 ∧ d2 ≤ 1 := by
        rw [hd1, hd2, hh]
        unfold hi2
        split <;> split <;> omega
      obtain ⟨n, l, a', b', o7', o8', o9', hS, e⟩ := ih (((nz ts).length - (a + d1)) + ((nz us).length - (b + d2))) (by omega) (a + d1) (b + d2) h (F ++ [(x, h, p, q)]) (some (.d (N x))) (some (.d (N h)))
        (some (.d (.tuple [.bool (decide (pre ts (p + 1) * us.sum = h)), .bool (decide (pre us (q + 1) * ts.sum = h))]))) rfl (by omega) (by omega) (by simp; omega) T' rfl rfl rfl
      rw [hh] at hS
      refine ⟨n + 1, (x, hi2 ts us p q, p, q) :: l, a', b', o7', o8', o9', .cons A B hS, ?_⟩
      have mx := max2 (pre ts p * us.sum) (pre us q * ts.sum)
      have mi := min2 (pre ts (p + 1) * us.sum) (pre us (q + 1) * ts.sum)
      rw [lo] at mx
      have hmin : min (pre ts (p + 1) * us.sum) (pre us (q + 1) * ts.sum) = h := hh.symm
      rw [hmin] at mi
      have q1 : opEq (.int ((pre ts (p + 1) * us.sum : Nat) : Int)) (.int (h : Nat)) = some (.d (.bool (decide (pre ts (p + 1) * us.sum = h)))) := by
        rw [opEq_ii]
        congr 3
        rw [Bool.eq_iff_iff]
        simp
        omega
      have q2 : opEq (.int ((pre us (q + 1) * ts.sum : Nat) : Int)) (.int (h : Nat)) = some (.d (.bool (decide (pre us (q + 1) * ts.sum = h)))) := by
        rw [opEq_ii]
        congr 3
        rw [Bool.eq_iff_iff]
        simp
        omega
      have y1 : opIx (Ed ts us.sum p) (.int 0) = some (.d (.int (p : Nat))) := rfl
      have y2 : opIx (Ed ts us.sum p) (.int 1) = some (.d (.int ((pre ts p * us.sum : Nat) : Int))) := rfl
      have y3 : opIx (Ed ts us.sum p) (.int 2) = some (.d (.int ((pre ts (p + 1) * us.sum : Nat) : Int))) := rfl
      have z1 : opIx (Ed us ts.sum q) (.int 0) = some (.d (.int (q : Nat))) := rfl
      have z2 : opIx (Ed us ts.sum q) (.int 1) = some (.d (.int ((pre us q * ts.sum : Nat) : Int))) := rfl
      have z3 : opIx (Ed us ts.sum q) (.int 2) = some (.d (.int ((pre us (q + 1) * ts.sum : Nat) : Int))) := rfl
      generalize pre ts (p + 1) * us.sum = X3 at *
      generalize pre us (q + 1) * ts.sum = Y3 at *
      generalize pre ts p * us.sum = X2 at *
      generalize pre us q * ts.sum = Y2 at *
      have hFl : F.length < 16777216 := by omega
      have b1 : (if X3 = h then (1 : Int) else 0) = (d1 : Nat) := by rw [hd1]; split <;> rfl
      have b2 : (if Y3 = h then (1 : Int) else 0) = (d2 : Nat) := by rw [hd2]; split <;> rfl
      rw [← hh]
      refine whileN_more ?_ ?_ (st' := [some (.d (tab ts)), some (.d (tab us)), some (.d (.list ((nz ts).map (Ed ts us.sum)))), some (.d (.list ((nz us).map (Ed us ts.sum)))), some (.own ((F ++ [(x, h, p, q)]).map pcD)), some (.d (N (a + d1))), some (.d (N (b + d2))), some (.d (N x)), some (.d (N h)), some (.d (.tuple [.bool (decide (X3 = h)), .bool (decide (Y3 = h))]))]) ?_
      · simp [c1, c2]
      · simp [kSetS_nd n7, kSetS_nd n8, kSetS_nd n9, i1, i2, y1, y2, y3, z1, z2, z3, mx, mi, q1, q2, DL.sizeLine_eq, hFl, b1, b2, pcD, -opIx_li, -bMax2_ii, -bMin2_ii, -opEq_ii]
      · rw [List.append_assoc] at e
        exact e
    · have e := T.stop c
      refine ⟨1, [], a, b, o7, o8, o9, by rw [e]; exact .nil, ?_⟩
      rw [List.append_nil]
      refine whileN_end ?_
      by_cases c1 : a < (nz ts).length
      · have c2 : ¬ b < (nz us).length := fun z => c ⟨c1, z⟩
        simp [c1, c2]
      · simp [c1]
theorem spans_ok (hl : ts.length ≤ 1000) (hl' : us.length ≤ 1000) (sT : Sm 100 ts.sum) (sU : Sm 100 us.sum) (h0 : 0 < ts.sum) (h0' : 0 < us.sum) : ∃ l, Spn ts us 0 l ∧ m_shared_spans [.d (tab ts), .d (tab us)] = some (.own (l.map pcD), []) := by
  have e1 := ends_ok (ts := ts) (U := us.sum) hl sT sU
  have e2 := ends_ok (ts := us) (U := ts.sum) hl' sU sT
  have s1 := P.sum_ok ts
  have s2 := P.sum_ok us
  have n1 : (nz ts).length ≤ 1000 := Nat.le_trans (List.length_filter_le _ _) (by simpa using hl)
  have n2 : (nz us).length ≤ 1000 := Nat.le_trans (List.length_filter_le _ _) (by simpa using hl')
  obtain ⟨n, l, a', b', o7', o8', o9', hS, e⟩ := spans_while (sT.mul sU) h0 h0' n1 n2 _ 0 0 0 [] none none none rfl (by omega) (by omega) (by simp; omega) (two_zero h0 h0') rfl rfl rfl
  have w := dWhile_of e
  refine ⟨l, hS, ?_⟩
  simp only [N] at s1 s2 w
  simp only [List.map_nil, List.nil_append] at w
  rw [show ((0 : Nat) : Int) = 0 from rfl] at w
  simp [m_shared_spans, g_shared_spans, run_ap, startD, s1, s2, e1, e2, w, DL.sizeLine_eq, -bSum_l]
end
open P (Ns tab Q sh Bd)
/-! ## the law's stretches -/
structure Tb (L : Nat) (ts : List Nat) : Prop where
  len : ts.length = L
  pos : 0 < ts.sum
  le : ∀ t ∈ ts, t ≤ 4000000000000
theorem sum_le (k : Nat) : ∀ ts : List Nat, (∀ t ∈ ts, t ≤ k) → ts.sum ≤ ts.length * k
  | [], _ => by simp
  | t :: r, h => by
    have := sum_le k r fun x hx => h x (by simp [hx])
    have := h t (by simp)
    simp only [List.sum_cons, List.length_cons, Nat.add_mul]
    omega
theorem Tb.sm {L : Nat} {ts : List Nat} (h : Tb L ts) (hL : L ≤ 8) : Sm 50 ts.sum := by
  have := sum_le _ ts h.le
  rw [h.len] at this
  exact sm_of 50 (by omega)
/-- the odds of a place on the common scale -/
def sc (R x : Nat) : Rat := mkRat (x : Nat) R
theorem sc_inj {R x y : Nat} (hR : 0 < R) (h : sc R x = sc R y) : x = y := by
  unfold sc at h
  rw [Rat.mkRat_eq_iff (by omega) (by omega)] at h
  have h2 : ((x * R : Nat) : Int) = ((y * R : Nat) : Int) := by simpa using h
  have h3 : x * R = y * R := by exact_mod_cast h2
  exact Nat.eq_of_mul_eq_mul_right hR h3
theorem sc_lt {R x y : Nat} (hR : 0 < R) : sc R x < sc R y ↔ x < y := by
  unfold sc
  rw [mk_lt hR hR]
  exact Nat.mul_lt_mul_right hR
theorem sc_zero {R : Nat} : sc R 0 = 0 := by
  unfold sc
  rw [mk_div]
  have : ((0 : Nat) : Rat) = 0 := rfl
  rw [this]
  grind
theorem sc_mul {S U a : Nat} (hU : 0 < U) : sc (S * U) (a * U) = mkRat (a : Nat) S := by
  unfold sc
  rw [mk_div, mk_div]
  have : (U : Rat) ≠ 0 := by
    intro z
    have : U = 0 := by exact_mod_cast z
    omega
  push_cast
  grind
theorem bd_sc {R x : Nat} (hR : 0 < R) (sR : Sm 100 R) (hx : x ≤ R) : Bd 100 (sc R x) := P.bd_mk hR (sR.le hx) sR
theorem sc_scale {R x : Nat} (hR : 0 < R) : ∃ n : Nat, (sc R x).num = (n : Nat) ∧ n * R = x * (sc R x).den := by
  obtain ⟨e1, e2⟩ := P.mk_num x R hR
  refine ⟨x / Nat.gcd x R, e1, ?_⟩
  unfold sc
  rw [e2]
  have g1 := Nat.gcd_dvd_left x R
  have g2 := Nat.gcd_dvd_right x R
  obtain ⟨u, hu⟩ := g1
  obtain ⟨v, hv⟩ := g2
  have g0 : 0 < Nat.gcd x R := Nat.gcd_pos_of_pos_right x hR
  generalize hg : Nat.gcd x R = g at *
  have d1 : x / g = u := by rw [hu]; exact Nat.mul_div_cancel_left u g0
  have d2 : R / g = v := by rw [hv]; exact Nat.mul_div_cancel_left v g0
  rw [d1, d2, hu, hv]
  grind
def EndsI (ts : List Nat) (r : List Nat) (s : DSt) : Prop := ∃ done o, done ++ r = ts ∧ nd o = true ∧ s = [some (.d (tab ts)), some (.d (N done.sum)), some (.own ((List.range done.length).map fun i => Q (mkRat (pre ts (i + 1) : Nat) ts.sum))), o]
theorem pre_app (done r : List Nat) : pre (done ++ r) done.length = done.sum := by simp [pre]
theorem ends_law {L : Nat} {ts : List Nat} (h : Tb L ts) (hL : L ≤ 8) : m__law_ends [.d (tab ts)] = some (.own ((List.range L).map fun i => Q (mkRat (pre ts (i + 1) : Nat) ts.sum)), []) := by
  refine okP.eq ?_
  have su := P.sum_ok ts
  simp [m__law_ends, g__law_ends, run_ap, startD, DL.sizeLine_eq]
  simp only [okP_obind]
  refine for_list (fun k : Nat => N k) (EndsI ts) (l := ts) ⟨[], none, rfl, rfl, rfl⟩ ?_ ?_
  · rintro c r s ⟨done, o, hd, no, rfl⟩
    have e0 : pre ts (done.length + 1) = done.sum + c := by
      have := pre_app (done ++ [c]) r
      rw [List.append_assoc, List.singleton_append, hd] at this
      simpa using this
    have hle : done.sum + c ≤ ts.sum := by rw [← hd]; simp
    have hlen : done.length < 16777216 := by
      have := congrArg List.length hd
      simp at this
      have := h.len
      omega
    have od := lodds_ok (done.sum + c) ts.sum h.pos ((h.sm hL).mono (by decide))
    simp only [N, Int.natCast_add] at od su
    simp [okP_some, kSetS_nd no, su, od, hlen, DL.sizeLine_eq, -bSum_l]
    refine ⟨done ++ [c], some (.d (N c)), by simp [hd], rfl, ?_⟩
    rw [List.length_append, List.length_singleton, List.range_succ, List.map_append]
    simp only [List.map_cons, List.map_nil, e0, List.sum_append, List.sum_cons, List.sum_nil, Nat.add_zero, N, Int.natCast_add]
  · rintro s ⟨done, o, hd, no, rfl⟩
    have hd : done = ts := by simpa using hd
    subst hd
    simp [okP_some, h.len]
/-! ### place_drawn -/
theorem draw_ok {k : Nat} {r : Rat} (h : Bd k r) (hr : r < 1) : m_check_draw [.d (Q r)] = some (.d .none, []) := by
  have i := is_odds_ok h
  have lt : r.num < (r.den : Nat) := by
    rw [Rat.lt_iff] at hr
    have : r.num * 1 < 1 * (r.den : Int) := hr
    omega
  simp [m_check_draw, g_check_draw, m_is_draw, g_is_draw, run_ap, startD, i, lt]
def PlI (R x : Nat) (ts : List Nat) (z : D) (r : List Nat) (s : DSt) : Prop := ∃ done o6 o7, done ++ r = List.range ts.length ∧ nd o6 = true ∧ nd o7 = true ∧ (∀ i ∈ done, pre ts (i + 1) * (sc R x).den ≤ (sc R x).num.toNat * ts.sum) ∧
  s = [some (.d (tab ts)), some (.d z), some (.d (.int (sc R x).num)), some (.d (.int ((sc R x).den : Nat))), some (.d (.int (((sc R x).num.toNat * ts.sum : Nat) : Int))), some (.d (N (pre ts done.length))), o6, o7]
def PlQ (U x : Nat) (ts : List Nat) (r : Rt × List (List D)) : Prop := ∃ p, At ts U p x ∧ r = (.d (N p), [])
theorem place_given_ok {ts : List Nat} {U x : Nat} (hl : ts.length ≤ 1000) (h0 : 0 < ts.sum) (hU : 0 < U) (sS : Sm 50 ts.sum) (sU : Sm 50 U) (hx : x < ts.sum * U) : okP (m_place_given [.d (tab ts), .d (Q (sc (ts.sum * U) x))]) (PlQ U x ts) := by
  have hR : 0 < ts.sum * U := Nat.mul_pos h0 hU
  have bd := bd_sc (R := ts.sum * U) hR (sS.mul sU) (Nat.le_of_lt hx)
  obtain ⟨n, e1, e2⟩ := sc_scale (R := ts.sum * U) (x := x) hR
  have sn : Sm 100 n := by have := bd.n; rw [e1] at this; simpa using this
  have d0 := (sc (ts.sum * U) x).den_pos
  obtain ⟨d, hd⟩ : ∃ d, d = (sc (ts.sum * U) x).den := ⟨_, rfl⟩
  rw [← hd] at d0 e2
  have key : ∀ y, y * d > n * ts.sum ↔ x < y * U := fun y => by
    constructor
    · intro h
      have h2 : n * ts.sum * U < y * d * U := Nat.mul_lt_mul_of_pos_right h hU
      have h3 : x * d < y * U * d := by
        calc x * d = n * (ts.sum * U) := e2.symm
          _ = n * ts.sum * U := by grind
          _ < y * d * U := h2
          _ = y * U * d := by grind
      exact Nat.lt_of_mul_lt_mul_right h3
    · intro h
      have h2 : x * d < y * U * d := Nat.mul_lt_mul_of_pos_right h d0
      have h3 : n * ts.sum * U < y * d * U := by
        calc n * ts.sum * U = n * (ts.sum * U) := by grind
          _ = x * d := e2
          _ < y * U * d := h2
          _ = y * d * U := by grind
      exact Nat.lt_of_mul_lt_mul_right h3
  have su := P.sum_ok ts
  have en := En_range ts
  have m1 := mul_ok (a := n) (b := ts.sum) (sn.mono (by decide)) (sS.mono (by decide))
  have hq : Q (sc (ts.sum * U) x) = .tuple [N n, N d] := by unfold Q; rw [e1, hd]
  have nn : ((n : Int)).toNat = n := by simp
  simp only [N] at su m1
  rw [hq]
  simp [m_place_given, g_place_given, run_ap, startD, DL.sizeLine_eq, su, en, m1, -bSum_l, -opMul_ii]
  simp only [okP_obind]
  refine for_ret (fun i : Nat => PyData.tuple [N i, N (gt ts i)]) (PlI (ts.sum * U) x ts (.tuple [N n, N d])) (l := List.range ts.length) ⟨[], none, none, rfl, rfl, rfl, by simp, by rw [e1, nn, ← hd]; simp [pre]⟩ ?_ ?_
  · rintro i r s ⟨done, o6, o7, hdn, n6, n7, hz, rfl⟩
    obtain ⟨hi, hlt⟩ := done_len hdn
    rw [e1, nn, ← hd] at hz ⊢
    have ps := pre_gt ts i
    have p1 : pre ts (i + 1) ≤ ts.sum := pre_le (by omega)
    have m2 := mul_ok (a := pre ts (i + 1)) (b := d) ((sS.le p1).mono (by decide)) (by rw [hd]; exact bd.d.mono (by decide))
    have ei : ((pre ts i : Nat) : Int) + (gt ts i : Nat) = ((pre ts (i + 1) : Nat) : Int) := by rw [ps]; simp
    rw [← hi]
    by_cases c : pre ts (i + 1) * d > n * ts.sum
    · have c' : ((n * ts.sum : Nat) : Int) < ((pre ts (i + 1) * d : Nat) : Int) := Int.ofNat_lt.mpr c
      have lo : pre ts i * U ≤ x := by
        by_cases z : i = 0
        · subst z
          rw [pre_zero, Nat.zero_mul]
          exact Nat.zero_le _
        · have hm : i - 1 ∈ done := by
            have : i - 1 ∈ List.range ts.length := List.mem_range.mpr (by omega)
            rw [← hdn] at this
            rcases List.mem_append.mp this with h | h
            · exact h
            · exfalso
              have e3 : (done ++ i :: r)[i - 1]? = some (i - 1) := by rw [hdn, List.getElem?_range (by omega)]
              rw [List.getElem?_append_left (by omega)] at e3
              have := List.mem_of_getElem? e3
              have pw := (List.pairwise_append.mp (show (done ++ i :: r).Pairwise (· < ·) by rw [hdn]; exact List.pairwise_lt_range)).2.2 _ this _ h
              exact absurd pw (Nat.lt_irrefl _)
          have := hz (i - 1) hm
          rw [show i - 1 + 1 = i by omega] at this
          apply Classical.byContradiction
          intro w
          have := (key (pre ts i)).mpr (by omega)
          omega
      simp [okP_some, kSetS_nd n6, kSetS_nd n7, ei, m2, c', -opMul_ii, -Int.natCast_mul]
      exact ⟨i, ⟨hlt, lo, (key _).mp c⟩, rfl⟩
    · have c' : ¬ ((n * ts.sum : Nat) : Int) < ((pre ts (i + 1) * d : Nat) : Int) := fun z => c (Int.ofNat_lt.mp z)
      simp [okP_some, kSetS_nd n6, kSetS_nd n7, ei, m2, c', -opMul_ii, -Int.natCast_mul]
      refine ⟨done ++ [i], some (.d (N i)), some (.d (N (gt ts i))), by simp [hdn], rfl, rfl, fun j hj => ?_, ?_⟩
      · rw [e1, nn, ← hd]
        rcases List.mem_append.mp hj with h | h
        · exact hz j h
        · have : j = i := by simpa using h
          subst this
          exact Nat.not_lt.mp c
      · rw [e1, nn, ← hd, List.length_append, List.length_singleton, ← hi]
  · rintro s ⟨done, o6, o7, hdn, n6, n7, hz, rfl⟩
    exfalso
    have hdn : done = List.range ts.length := by simpa using hdn
    have hlen : 0 < ts.length := by
      apply Classical.byContradiction
      intro z
      have : ts = [] := List.length_eq_zero_iff.mp (by omega)
      subst this
      simp at h0
    have := hz (ts.length - 1) (by rw [hdn]; exact List.mem_range.mpr (by omega))
    rw [show ts.length - 1 + 1 = ts.length by omega, pre_len, e1, nn, ← hd] at this
    have := (key ts.sum).mpr hx
    omega
open P (Ns tab Q sh Bd)
def eQ (R x : Nat) : D := Q (sc R x)
theorem eq_eQ {R : Nat} (hR : 0 < R) (x y : Nat) : PyData.eqv (eQ R x) (eQ R y) = (x == y) := by
  rw [Bool.eq_iff_iff, P.eqv_iff (eQ R x) (eQ R y) (show P.intd (eQ R x) = true from (P.Q_intd _).1) (show P.intd (eQ R y) = true from (P.Q_intd _).1)]
  simp only [beq_iff_eq]
  exact ⟨fun h => sc_inj hR (P.Q_inj h), fun h => by rw [h]⟩
theorem flat_eQ (R x : Nat) : flat (eQ R x) = true := by
  have := (P.Q_intd (sc R x))
  simp [flat, eQ, P.intd_plain _ this.1, this.2]
theorem flat_eQs (R : Nat) (E : List Nat) : flat (.list (E.map (eQ R))) = true := by
  have i : P.intd (.list (E.map (eQ R))) = true := by
    show P.intdAll _ = true
    exact P.intd_map fun a _ => (P.Q_intd _).1
  have d : PyData.depthAll (E.map (eQ R)) ≤ 1 := P.depth_map fun a _ => by
    have : (eQ R a).depth = 1 := (P.Q_intd (sc R a)).2
    rw [this]
    decide
  have := P.intd_plain _ i
  simp [flat, this, PyData.depth]
  omega
theorem in_eQ {R : Nat} (hR : 0 < R) (x : Nat) (E : List Nat) : inD (eQ R x) (.list (E.map (eQ R))) = some (decide (x ∈ E)) := by
  show (if _ then _ else _) = _
  rw [if_pos ⟨flat_eQ R x, flat_eQs R E⟩]
  congr 1
  rw [List.any_map, Bool.eq_iff_iff]
  simp only [List.any_eq_true, Function.comp, eq_eQ hR, beq_iff_eq, decide_eq_true_eq]
  exact ⟨fun ⟨y, hy, e⟩ => by rw [← e]; exact hy, fun h => ⟨x, h, rfl⟩⟩
theorem ne_zero {R : Nat} (hR : 0 < R) (x : Nat) : opNe (eQ R x) (.tuple [.int 0, .int 1]) = some (.d (.bool (decide (x ≠ 0)))) := by
  have := (P.Q_eq (sc R x) 0).2
  rw [P.Q_zero] at this
  show opNe (Q (sc R x)) _ = _
  rw [this]
  congr 3
  rw [Bool.eq_iff_iff]
  simp only [Bool.not_eq_true', decide_eq_false_iff_not, decide_eq_true_eq]
  constructor
  · intro h z
    subst z
    exact h sc_zero
  · intro h z
    rw [← sc_zero (R := R)] at z
    exact h (sc_inj hR z)
theorem ne_eQs (R : Nat) (E : List Nat) : opNe (.list (E.map (eQ R))) (.list []) = some (.d (.bool (!E.isEmpty))) := by
  rw [P.ne_list (flat_eQs R E)]
  cases E <;> rfl
section
variable {ts us : List Nat} {L : Nat}
def bnds (ts us : List Nat) (L : Nat) : List Nat := ((List.range L).map fun i => pre ts (i + 1) * us.sum) ++ (List.range L).map fun j => pre us (j + 1) * ts.sum
theorem bnds_le (ht : Tb L ts) (hu : Tb L us) {x : Nat} (h : x ∈ bnds ts us L) : x ≤ ts.sum * us.sum := by
  rcases List.mem_append.mp h with h | h
  · obtain ⟨i, hi, rfl⟩ := List.mem_map.mp h
    exact Nat.mul_le_mul_right _ (pre_le (by rw [ht.len]; exact List.mem_range.mp hi))
  · obtain ⟨i, hi, rfl⟩ := List.mem_map.mp h
    rw [Nat.mul_comm ts.sum]
    exact Nat.mul_le_mul_right _ (pre_le (by rw [hu.len]; exact List.mem_range.mp hi))
theorem mem_one (ht : Tb L ts) {p : Nat} (hp : p < ts.length) : pre ts (p + 1) * us.sum ∈ bnds ts us L := List.mem_append_left _ (List.mem_map.mpr ⟨p, List.mem_range.mpr (by rw [← ht.len]; exact hp), rfl⟩)
theorem mem_two (hu : Tb L us) {p : Nat} (hp : p < us.length) : pre us (p + 1) * ts.sum ∈ bnds ts us L := List.mem_append_right _ (List.mem_map.mpr ⟨p, List.mem_range.mpr (by rw [← hu.len]; exact hp), rfl⟩)
/-- the least of the bounds behind x is the next one -/
theorem bnds_next {p q x : Nat} (a : At ts us.sum p x) (b : At us ts.sum q x) {y : Nat} (h : y ∈ bnds ts us L) (hy : x < y) : hi2 ts us p q ≤ y := by
  unfold hi2
  rcases List.mem_append.mp h with h | h
  · obtain ⟨i, _, rfl⟩ := List.mem_map.mp h
    have : p ≤ i := by
      apply Classical.byContradiction
      intro z
      have := Nat.mul_le_mul_right us.sum (pre_mono ts (show i + 1 ≤ p by omega))
      have := a.lo
      omega
    have := Nat.mul_le_mul_right us.sum (pre_mono ts (show p + 1 ≤ i + 1 by omega))
    omega
  · obtain ⟨i, _, rfl⟩ := List.mem_map.mp h
    have : q ≤ i := by
      apply Classical.byContradiction
      intro z
      have := Nat.mul_le_mul_right ts.sum (pre_mono us (show i + 1 ≤ q by omega))
      have := b.lo
      omega
    have := Nat.mul_le_mul_right ts.sum (pre_mono us (show q + 1 ≤ i + 1 by omega))
    omega
end
theorem mul_rep (x : D) (b : Bool) : opMul (.list [x]) (.int (if b = true then 1 else 0)) = some (.tmp (if b = true then [x] else [])) := by
  cases b
  · simp
  · simp [DL.sizeLine_eq]
/-- the least of them -/
def least' (m : Nat) (ys : List Nat) : Nat := ys.foldl (fun m y => if y < m then y else m) m
theorem least_le : ∀ (ys : List Nat) (m : Nat), least' m ys ≤ m ∧ (∀ y ∈ ys, least' m ys ≤ y) ∧ (least' m ys = m ∨ least' m ys ∈ ys)
  | [], m => ⟨Nat.le_refl _, by simp, .inl rfl⟩
  | y :: r, m => by
    obtain ⟨h1, h2, h3⟩ := least_le r (if y < m then y else m)
    have e : least' m (y :: r) = least' (if y < m then y else m) r := rfl
    rw [e]
    have e2 : (if y < m then y else m) ≤ m ∧ (if y < m then y else m) ≤ y := by split <;> omega
    refine ⟨Nat.le_trans h1 e2.1, fun z hz => ?_, ?_⟩
    · rcases List.mem_cons.mp hz with rfl | hz
      · exact Nat.le_trans h1 e2.2
      · exact h2 z hz
    · rcases h3 with h | h
      · by_cases c : y < m
        · rw [if_pos c] at h ⊢
          exact .inr (by rw [h]; simp)
        · rw [if_neg c] at h ⊢
          exact .inl h
      · exact .inr (List.mem_cons_of_mem _ h)
theorem least_go {R : Nat} (hR : 0 < R) (sR : Sm 100 R) {s0 s1 s3 s4 : Option SV} {full : List D} : ∀ (ys : List Nat) (m : Nat) (o5 : Option SV), nd o5 = true → m ≤ R → (∀ y ∈ ys, y ≤ R) →
    ∃ o5', nd o5' = true ∧ forGoB 2 full (DL.gName 5) (dSet 6 (dIf (dTest (dCall m__law_below [false, false] [] (dCons (dVar 5) (dCons (dVar 6) (dNil))))) (dVar 5) (dVar 6))) (ys.map (eQ R)) [s0, s1, some (.own full), s3, s4, o5, some (.d (eQ R m))] = some (.nx, [s0, s1, some (.own full), s3, s4, o5', some (.d (eQ R (least' m ys)))])
  | [], m, o5, n5, _, _ => ⟨o5, n5, by rw [List.map_nil, forGoB_nil _ _ _ _ _ rfl]; rfl⟩
  | y :: r, m, o5, n5, hm, hy => by
    have b := P.below_ok (bd_sc hR sR (hy y (by simp))) (bd_sc hR sR hm) (by decide)
    obtain ⟨o5', n5', e⟩ := least_go hR sR (s0 := s0) (s1 := s1) (s3 := s3) (s4 := s4) (full := full) r (if y < m then y else m) (some (.d (eQ R y))) rfl (by split; exact hy y (by simp); exact hm) fun z hz => hy z (by simp [hz])
    refine ⟨o5', n5', ?_⟩
    rw [List.map_cons, forGoB_cons _ _ _ _ _ _ _ rfl]
    have b' : P.m_is_below [.d (eQ R y), .d (eQ R m)] = some (.d (.bool (decide (y < m))), []) := by
      have e2 : decide (sc R y < sc R m) = decide (y < m) := decide_eq_decide.mpr (sc_lt hR)
      rw [← e2]
      exact b
    have el : least' m (y :: r) = least' (if y < m then y else m) r := rfl
    rw [el]
    simp only [e_lbelow] at e ⊢
    by_cases c : y < m
    · rw [if_pos c] at e ⊢
      simp [kSetS_nd n5, b', c, e]
    · rw [if_neg c] at e ⊢
      simp [kSetS_nd n5, b', c, e]
open P (Ns tab Q sh Bd)
theorem erase_map {α β : Type} (f : α → β) : ∀ (l : List α) (j : Nat), (l.map f).eraseIdx j = (l.eraseIdx j).map f
  | [], j => by simp
  | a :: r, 0 => by simp
  | a :: r, j + 1 => by simp [erase_map f r j]
def stD (R : Nat) (z : Pc) : D := .tuple [eQ R z.1, eQ R z.2.1, N z.2.2.1, N z.2.2.2]
section
variable {ts us : List Nat} {L : Nat}
def FstI (ts us : List Nat) (L : Nat) (r : List Nat) (s : DSt) : Prop := ∃ (E : List Nat) (o5 : Option SV), E.Nodup ∧ (∀ x, (x ∈ E ∨ (x ∈ r ∧ x ≠ 0)) ↔ (x ∈ bnds ts us L ∧ x ≠ 0)) ∧ E.length + r.length ≤ 16 ∧ nd o5 = true ∧
  s = [some (.d (tab ts)), some (.d (tab us)), some (.own (E.map (eQ (ts.sum * us.sum)))), some (.own []), some (.d (eQ (ts.sum * us.sum) 0)), o5, none]
theorem rm_ok {R : Nat} (hR : 0 < R) {E : List Nat} {m : Nat} (hm : m ∈ E) : ∃ j, ((E.map (eQ R)).findIdx? fun y => PyData.eqv y (eQ R m)) = some j ∧ (E.map (eQ R)).eraseIdx j = (E.erase m).map (eQ R) := by
  have e1 : ((E.map (eQ R)).findIdx? fun y => PyData.eqv y (eQ R m)) = E.findIdx? (· == m) := by
    rw [List.findIdx?_map]
    congr 1
    funext y
    exact eq_eQ hR y m
  cases h : E.findIdx? (· == m) with
  | none =>
    have := List.findIdx?_eq_none_iff.mp h m hm
    simp at this
  | some j =>
    refine ⟨j, by rw [e1, h], ?_⟩
    have : E.erase m = E.eraseIdx j := by
      rw [List.erase_eq_eraseIdx]
      have : E.idxOf? m = some j := h
      rw [this]
    rw [this, erase_map]
theorem str_while (ht : Tb L ts) (hu : Tb L us) (hL : L ≤ 8) : ∀ (m : Nat) (E : List Nat) (x : Nat) (F : List Pc) (o5 o6 : Option SV), E.length = m → E.Nodup → (∀ y, y ∈ E ↔ (y ∈ bnds ts us L ∧ x < y)) → (x = 0 ∨ x ∈ bnds ts us L) → F.length + m ≤ 1000 → nd o5 = true → nd o6 = true →
    ∃ n l o5' o6' x', Spn ts us x l ∧ l.length = m ∧ whileN (dTest (dOp2 opNe (dVar 2) (dList (dNil)))) (dSeq (dSet 6 (dOp2 opIx (dVar 2) (dC (.int 0)))) (dSeq (dForB 2 (DL.gName 5) (dSet 6 (dIf (dTest (dCall m__law_below [false, false] [] (dCons (dVar 5) (dCons (dVar 6) (dNil))))) (dVar 5) (dVar 6)))) (dSeq (dRemoveD 2 (dVar 6)) (dSeq (dAppend 3 (dTup (dCons (dVar 4) (dCons (dVar 6) (dCons (dCall m_place_drawn [false, false] [] (dCons (dVar 0) (dCons (dVar 4) (dNil)))) (dCons (dCall m_place_drawn [false, false] [] (dCons (dVar 1) (dCons (dVar 4) (dNil)))) (dNil))))))) (dSet 4 (dVar 6)))))) n
      [some (.d (tab ts)), some (.d (tab us)), some (.own (E.map (eQ (ts.sum * us.sum)))), some (.own (F.map (stD (ts.sum * us.sum)))), some (.d (eQ (ts.sum * us.sum) x)), o5, o6] =
      some (.nx, [some (.d (tab ts)), some (.d (tab us)), some (.own []), some (.own ((F ++ l).map (stD (ts.sum * us.sum)))), some (.d (eQ (ts.sum * us.sum) x')), o5', o6']) := by
  have hR : 0 < ts.sum * us.sum := Nat.mul_pos ht.pos hu.pos
  have sT := ht.sm hL
  have sU := hu.sm hL
  have sR : Sm 100 (ts.sum * us.sum) := sT.mul sU
  intro m
  induction m with
  | zero =>
    intro E x F o5 o6 hm hn hE hx hF n5 n6
    have : E = [] := List.length_eq_zero_iff.mp hm
    subst this
    have xe : x = ts.sum * us.sum := by
      have xle : x ≤ ts.sum * us.sum := by
        rcases hx with rfl | hx
        · exact Nat.zero_le _
        · exact bnds_le ht hu hx
      have hlen : 0 < ts.length := by
        apply Classical.byContradiction
        intro z
        have : ts = [] := List.length_eq_zero_iff.mp (by omega)
        have := ht.pos
        subst ts
        simp at this
      have top := mem_one (us := us) ht (show ts.length - 1 < ts.length by omega)
      rw [show ts.length - 1 + 1 = ts.length by omega, pre_len] at top
      apply Classical.byContradiction
      intro z
      have := (hE (ts.sum * us.sum)).mpr ⟨top, by omega⟩
      simp at this
    refine ⟨1, [], o5, o6, x, by rw [xe]; exact .nil, rfl, ?_⟩
    rw [List.append_nil]
    refine whileN_end ?_
    simp [ne_nil, DL.sizeLine_eq]
  | succ m ih =>
    intro E x F o5 o6 hm hn hE hx hF n5 n6
    obtain ⟨e0, E0, hE0⟩ : ∃ e0 E0, E = e0 :: E0 := by
      cases E with
      | nil => simp at hm
      | cons a b => exact ⟨a, b, rfl⟩
    have hle : ∀ y ∈ E, y ≤ ts.sum * us.sum := fun y hy => bnds_le ht hu ((hE y).mp hy).1
    have h0E : e0 ∈ E := by rw [hE0]; simp
    have xlt : x < ts.sum * us.sum := Nat.lt_of_lt_of_le ((hE e0).mp h0E).2 (hle e0 h0E)
    have pl1 := place_given_ok (ts := ts) (U := us.sum) (by rw [ht.len]; omega) ht.pos hu.pos sT sU xlt
    have pl2 := place_given_ok (ts := us) (U := ts.sum) (by rw [hu.len]; omega) hu.pos ht.pos sU sT (by rw [Nat.mul_comm]; exact xlt)
    rw [Nat.mul_comm us.sum] at pl2
    obtain ⟨_, g1, p, A, rfl⟩ := pl1
    obtain ⟨_, g2, q, B, rfl⟩ := pl2
    obtain ⟨h, hh⟩ : ∃ h, h = least' e0 E := ⟨_, rfl⟩
    obtain ⟨k1, k2, k3⟩ := least_le E e0
    rw [← hh] at k1 k2 k3
    have hhE : h ∈ E := by
      rcases k3 with z | z
      · rw [z]; exact h0E
      · exact z
    have he : h = hi2 ts us p q := by
      have a1 := bnds_next A B ((hE h).mp hhE).1 ((hE h).mp hhE).2
      have a2 : hi2 ts us p q ∈ E := by
        refine (hE _).mpr ⟨?_, ?_⟩
        · unfold hi2
          rcases Nat.le_total (pre ts (p + 1) * us.sum) (pre us (q + 1) * ts.sum) with z | z
          · rw [Nat.min_eq_left z]
            exact mem_one ht A.lt
          · rw [Nat.min_eq_right z]
            exact mem_two hu B.lt
        · have := A.hi
          have := B.hi
          unfold hi2
          omega
      have := k2 _ a2
      omega
    obtain ⟨j, j1, j2⟩ := rm_ok hR hhE
    obtain ⟨o5', n5', lg⟩ := least_go hR sR (s0 := some (.d (tab ts))) (s1 := some (.d (tab us))) (s3 := some (.own (F.map (stD (ts.sum * us.sum))))) (s4 := some (.d (eQ (ts.sum * us.sum) x))) (full := E.map (eQ (ts.sum * us.sum))) E e0 o5 n5 (hle e0 h0E) hle
    rw [← hh] at lg
    have hE' : ∀ y, y ∈ E.erase h ↔ (y ∈ bnds ts us L ∧ h < y) := fun y => by
      rw [hn.mem_erase_iff, hE y]
      constructor
      · rintro ⟨a, b, c⟩
        have := k2 y ((hE y).mpr ⟨b, c⟩)
        exact ⟨b, by omega⟩
      · rintro ⟨a, b⟩
        have := ((hE h).mp hhE).2
        exact ⟨by omega, a, by omega⟩
    obtain ⟨n, l, o5'', o6'', x', hS, hlen, e⟩ := ih (E.erase h) h (F ++ [(x, h, p, q)]) o5' (some (.d (eQ (ts.sum * us.sum) h))) (by rw [List.length_erase_of_mem hhE]; omega) (hn.erase h) hE' (.inr ((hE h).mp hhE).1) (by simp; omega) n5' rfl
    rw [he] at hS
    refine ⟨n + 1, (x, hi2 ts us p q, p, q) :: l, o5'', o6'', x', .cons A B hS, by simp [hlen], ?_⟩
    have ne1 := ne_eQs (ts.sum * us.sum) E
    have nem : E.isEmpty = false := by rw [hE0]; rfl
    rw [nem] at ne1
    have ix0' : opIx (.list (E.map (eQ (ts.sum * us.sum)))) (.int 0) = some (.d (eQ (ts.sum * us.sum) e0)) := by
      have := ixm (f := eQ (ts.sum * us.sum)) (l := E) (k := 0) (by rw [hE0]; simp)
      have e3 : E[0]'(by rw [hE0]; simp) = e0 := by simp [hE0]
      rw [e3] at this
      exact this
    have ck1 := P.look_table_ok ts (by rw [ht.len]; omega) ht.pos
    have ck2 := P.look_table_ok us (by rw [hu.len]; omega) hu.pos
    have dr := draw_ok (bd_sc hR sR (Nat.le_of_lt xlt)) (by
      have := (sc_lt (x := x) (y := ts.sum * us.sum) hR).mpr xlt
      have e1 : sc (ts.sum * us.sum) (ts.sum * us.sum) = 1 := by
        unfold sc
        rw [mk_div]
        have : ((ts.sum * us.sum : Nat) : Rat) ≠ 0 := by
          intro z
          have : ts.sum * us.sum = 0 := by exact_mod_cast z
          omega
        grind
      rw [e1] at this
      exact this)
    have d1 : m_place_drawn [.d (tab ts), .d (eQ (ts.sum * us.sum) x)] = some (.d (N p), []) := by
      simp [m_place_drawn, g_place_drawn, run_ap, startD, ck1, eQ, dr, g1]
    have d2 : m_place_drawn [.d (tab us), .d (eQ (ts.sum * us.sum) x)] = some (.d (N q), []) := by
      simp [m_place_drawn, g_place_drawn, run_ap, startD, ck2, eQ, dr, g2]
    have fl1 := flat_eQ (ts.sum * us.sum) h
    have fl2 := flat_eQs (ts.sum * us.sum) E
    have hFl : F.length < 16777216 := by omega
    simp only [e_lbelow] at lg e ⊢
    rw [he] at e
    refine whileN_more ?_ ?_ (st' := [some (.d (tab ts)), some (.d (tab us)), some (.own ((E.erase h).map (eQ (ts.sum * us.sum)))), some (.own ((F ++ [(x, h, p, q)]).map (stD (ts.sum * us.sum)))), some (.d (eQ (ts.sum * us.sum) h)), o5', some (.d (eQ (ts.sum * us.sum) h))]) ?_
    · simp [ne1, DL.sizeLine_eq]
    · simp [kSetS_nd n6, ix0', lg, fl1, fl2, j1, j2, d1, d2, DL.sizeLine_eq, hFl, stD, -opIx_li]
    · rw [List.append_assoc, ← he] at e
      rw [← he]
      exact e
theorem stretches_ok (ht : Tb L ts) (hu : Tb L us) (hL : L ≤ 8) : ∃ l, Spn ts us 0 l ∧ l.length ≤ 16 ∧ m__law_stretches [.d (tab ts), .d (tab us)] = some (.own (l.map (stD (ts.sum * us.sum))), []) := by
  have hR : 0 < ts.sum * us.sum := Nat.mul_pos ht.pos hu.pos
  have e1 := ends_law ht hL
  have e2 := ends_law hu hL
  have eb : ((List.range L).map fun i => Q (mkRat (pre ts (i + 1) : Nat) ts.sum)) ++ ((List.range L).map fun i => Q (mkRat (pre us (i + 1) : Nat) us.sum)) = (bnds ts us L).map (eQ (ts.sum * us.sum)) := by
    unfold bnds
    rw [List.map_append, List.map_map, List.map_map]
    congr 1
    · apply List.map_congr_left
      intro i _
      show Q _ = Q (sc _ _)
      rw [sc_mul hu.pos]
    · apply List.map_congr_left
      intro i _
      show Q _ = Q (sc _ _)
      rw [Nat.mul_comm ts.sum, sc_mul ht.pos]
  have bl : (bnds ts us L).length ≤ 16 := by
    simp [bnds]
    omega
  have z0 : eQ (ts.sum * us.sum) 0 = .tuple [.int 0, .int 1] := by
    unfold eQ
    rw [sc_zero, P.Q_zero]
  have key : okP (m__law_stretches [.d (tab ts), .d (tab us)]) fun r => ∃ l, Spn ts us 0 l ∧ l.length ≤ 16 ∧ r = (.own (l.map (stD (ts.sum * us.sum))), []) := by
    have hL2 : L + L ≤ 16777216 := by omega
    simp [m__law_stretches, g__law_stretches, run_ap, startD, DL.sizeLine_eq, e1, e2, eb, hL2]
    simp only [okP_obind]
    refine for_list (eQ (ts.sum * us.sum)) (FstI ts us L) (l := bnds ts us L) ⟨[], none, List.nodup_nil, fun x => by simp, by simpa using bl, rfl, by rw [z0]; rfl⟩ ?_ ?_
    · rintro x r s ⟨E, o5, hn, hE, hl, n5, rfl⟩
      have i1 := in_eQ hR x E
      have i2 := ne_zero hR x
      simp only [List.length_cons] at hl
      have hEl : E.length + 1 ≤ 16777216 := by omega
      have hEl2 : E.length ≤ 16777216 := by omega
      by_cases c1 : x ∈ E
      · simp [okP_some, kSetS_nd n5, i1, c1, DL.sizeLine_eq, hEl2]
        refine ⟨E, _, hn, fun y => ?_, by omega, rfl, rfl⟩
        rw [← hE y]
        constructor
        · rintro (h | h)
          · exact .inl h
          · exact .inr ⟨List.mem_cons_of_mem _ h.1, h.2⟩
        · rintro (h | ⟨h, h0⟩)
          · exact .inl h
          · rcases List.mem_cons.mp h with rfl | h
            · exact .inl c1
            · exact .inr ⟨h, h0⟩
      · by_cases c2 : x = 0
        · have i2' : opNe (eQ (ts.sum * us.sum) x) (.tuple [.int 0, .int 1]) = some (.d (.bool false)) := by rw [i2]; simp [c2]
          simp [okP_some, kSetS_nd n5, i1, c1, i2', DL.sizeLine_eq, hEl2]
          refine ⟨E, _, hn, fun y => ?_, by omega, rfl, rfl⟩
          rw [← hE y]
          constructor
          · rintro (h | h)
            · exact .inl h
            · exact .inr ⟨List.mem_cons_of_mem _ h.1, h.2⟩
          · rintro (h | ⟨h, h0⟩)
            · exact .inl h
            · rcases List.mem_cons.mp h with rfl | h
              · exact absurd c2 h0
              · exact .inr ⟨h, h0⟩
        · have i2' : opNe (eQ (ts.sum * us.sum) x) (.tuple [.int 0, .int 1]) = some (.d (.bool true)) := by rw [i2]; simp [c2]
          simp [okP_some, kSetS_nd n5, i1, c1, i2', DL.sizeLine_eq, hEl]
          refine ⟨E ++ [x], some (.d (eQ (ts.sum * us.sum) x)), ?_, fun y => ?_, by simp; omega, rfl, by simp⟩
          · rw [List.nodup_append]
            exact ⟨hn, by simp, fun a ha b hb => by
              have : b = x := by simpa using hb
              subst this
              exact fun z => c1 (z ▸ ha)⟩
          · rw [← hE y]
            constructor
            · rintro (h | h)
              · rcases List.mem_append.mp h with h | h
                · exact .inl h
                · have : y = x := by simpa using h
                  subst this
                  exact .inr ⟨by simp, c2⟩
              · exact .inr ⟨List.mem_cons_of_mem _ h.1, h.2⟩
            · rintro (h | ⟨h, h0⟩)
              · exact .inl (List.mem_append_left _ h)
              · rcases List.mem_cons.mp h with rfl | h
                · exact .inl (by simp)
                · exact .inr ⟨h, h0⟩
    · rintro s ⟨E, o5, hn, hE, hl, n5, rfl⟩
      obtain ⟨n, l, o5', o6', x', hS, hlen, e⟩ := str_while ht hu hL E.length E 0 [] o5 none rfl hn (fun y => by
        have := hE y
        simp only [List.not_mem_nil, false_and, or_false] at this
        rw [this]
        constructor
        · rintro ⟨a, b⟩
          exact ⟨a, by omega⟩
        · rintro ⟨a, b⟩
          exact ⟨a, by omega⟩) (.inl rfl) (by simp at hl ⊢; omega) n5 rfl
      have w := dWhile_of e
      simp only [e_lbelow, List.map_nil, List.nil_append] at w
      simp [okP_some, w]
      exact ⟨l, hS, by simp at hl; omega, rfl⟩
  obtain ⟨r, e, l, hS, hl, rfl⟩ := key
  exact ⟨l, hS, hl, e⟩
end
open P (Ns tab Q sh Bd)
/-! ## alike -/
theorem sc_add {R a b : Nat} : sc R (a + b) = sc R a + sc R b := by
  unfold sc
  rw [mk_div, mk_div, mk_div]
  push_cast
  grind
theorem sc_sub {R a b : Nat} (h : b ≤ a) : sc R (a - b) = sc R a - sc R b := by
  have := sc_add (R := R) (a := a - b) (b := b)
  rw [show a - b + b = a by omega] at this
  grind
theorem sc_one {R : Nat} (hR : 0 < R) : sc R R = 1 := by
  unfold sc
  rw [mk_div]
  have : (R : Rat) ≠ 0 := by
    intro z
    have : R = 0 := by exact_mod_cast z
    omega
  grind
theorem sc_sum {α : Type} {R : Nat} (f : α → Nat) : ∀ l : List α, (l.map fun a => sc R (f a)).sum = sc R (l.map f).sum
  | [] => by simp [sc_zero]
  | x :: r => by
    simp only [List.map_cons, List.sum_cons, sc_sum f r, sc_add]
theorem sc_le {R a b : Nat} (hR : 0 < R) (h : a ≤ b) : sc R a ≤ sc R b := by
  have := (sc_lt (x := b) (y := a) hR)
  grind
/-- what the law's sum gives -/
def SumI (k : Nat) (z : D) (p0 : Rat) (r : List Rat) (s : DSt) : Prop := ∃ (a u j : Nat) (o : Option SV), 0 < u ∧ Sm j a ∧ Sm j u ∧ j + r.length * (k + 1) ≤ 7900 ∧ (∀ x ∈ r, Bd k x) ∧ mkRat (a : Nat) u + r.sum = p0 ∧ nd o = true ∧ s = [some (.d z), some (.d (N a)), some (.d (N u)), o]
theorem law_sum_ok {rs : List Rat} {k : Nat} (hb : ∀ x ∈ rs, Bd k x) (hk : 2 + rs.length * (k + 1) ≤ 7900) : m__law_sum [.d (.list (rs.map Q))] = some (.d (Q rs.sum), []) := by
  refine okP.eq ?_
  simp [m__law_sum, g__law_sum, run_ap, startD, DL.sizeLine_eq]
  simp only [okP_obind]
  refine for_list Q (SumI k (.list (rs.map Q)) rs.sum) (l := rs) ⟨0, 1, 2, none, by decide, sm_of 2 (by decide), sm_of 2 (by decide), hk, hb, ?_, rfl, rfl⟩ ?_ ?_
  · have : mkRat ((0 : Nat) : Int) 1 = 0 := rfl
    rw [this, Rat.zero_add]
  · rintro x r s ⟨a, u, j, o, hu, sa, su, hj, hx, hs, no, rfl⟩
    simp only [List.length_cons, Nat.succ_mul] at hj
    have bx := hx x (by simp)
    obtain ⟨n, e1, s1, p1⟩ := bx.nat
    have m1 := mul_ok (a := a) (b := x.den) (sa.mono (by omega)) (bx.d.mono (by omega))
    have m2 := mul_ok (a := n) (b := u) (s1.mono (by omega)) (su.mono (by omega))
    have m3 := mul_ok (a := u) (b := x.den) (su.mono (by omega)) (bx.d.mono (by omega))
    simp only [Int.natCast_mul] at m1 m2 m3
    have hn : SumI k (.list (rs.map Q)) rs.sum r [some (.d (.list (rs.map Q))), some (.d (N (a * x.den + n * u))), some (.d (N (u * x.den))), some (.d (Q x))] := by
      refine ⟨_, _, j + (k + 1), _, Nat.mul_pos hu p1, ((sa.mul bx.d).add ((s1.mul su).mono (by omega))).mono (by omega), (su.mul bx.d).mono (by omega), by omega, fun y hy => hx y (by simp [hy]), ?_, rfl, rfl⟩
      rw [← hs, List.sum_cons]
      have ex : x = (n : Rat) / (x.den : Rat) := by
        have := P.rat_mk x
        rw [e1, mk_div] at this
        exact this.symm
      have u0 : (u : Rat) ≠ 0 := by
        intro z
        have : u = 0 := by exact_mod_cast z
        omega
      have d0 : (x.den : Rat) ≠ 0 := by
        intro z
        have : x.den = 0 := by exact_mod_cast z
        omega
      have key : mkRat ((a * x.den + n * u : Nat) : Int) (u * x.den) = mkRat (a : Nat) u + x := by
        rw [mk_div, mk_div]
        conv => rhs; rw [ex]
        push_cast
        generalize (x.den : Rat) = dd at *
        clear ex
        grind
      rw [key, Rat.add_assoc]
    simp only [N, Int.natCast_add, Int.natCast_mul] at hn
    simp [okP_some, kSetS_nd no, e1, m1, m2, m3, -opMul_ii]
    exact hn
  · rintro s ⟨a, u, j, o, hu, sa, su, hj, hx, hs, no, rfl⟩
    have od := lodds_ok a u hu (su.mono (by simp at hj; omega))
    rw [show mkRat (a : Nat) u = rs.sum by simpa [Rat.add_zero] using hs] at od
    simp [okP_some, od]
section
variable {ts us : List Nat} {L : Nat}
def partL (l : List Pc) : List Pc := l.filter fun z => !(z.2.2.1 == z.2.2.2)
theorem lens (l : List Pc) : lenL (sameL l) + lenL (partL l) = lenL l := by
  induction l with
  | nil => rfl
  | cons z r ih =>
    unfold sameL partL lenL at *
    by_cases c : z.2.2.1 = z.2.2.2
    · rw [List.filter_cons_of_pos (by simpa using c), List.filter_cons_of_neg (by simpa using c)]
      simp only [List.map_cons, List.sum_cons]
      omega
    · rw [List.filter_cons_of_neg (by simpa using c), List.filter_cons_of_pos (by simpa using c)]
      simp only [List.map_cons, List.sum_cons]
      omega
/-! ### the program -/
theorem alike_ok (ht : Tb L ts) (hu : Tb L us) (hL : L ≤ 8) {l : List Pc} (hS : Spn ts us 0 l) (hl : l.length ≤ 16) : m_alike_given [.d (tab ts), .d (tab us)] = some (.d (Q (sc (ts.sum * us.sum) (lenL (sameL l)))), []) := by
  obtain ⟨l', hS', sp⟩ := spans_ok (ts := ts) (us := us) (by rw [ht.len]; omega) (by rw [hu.len]; omega) ((ht.sm hL).mono (by decide)) ((hu.sm hL).mono (by decide)) ht.pos hu.pos
  have := hS'.uniq hS
  subst this
  refine okP.eq ?_
  have h1 := P.look_two_ok (ts := ts) (us := us) (by rw [ht.len]; omega) (by rw [ht.len, hu.len]) ht.pos hu.pos
  have s1 := P.sum_ok ts
  have s2 := P.sum_ok us
  have m1 := mul_ok (a := ts.sum) (b := us.sum) ((ht.sm hL).mono (by decide)) ((hu.sm hL).mono (by decide))
  have lz : l'.length ≤ 16777216 := by omega
  simp only [N, Int.natCast_mul] at s1 s2 m1
  simp [m_alike_given, g_alike_given, run_ap, startD, DL.sizeLine_eq, h1, sp, lz]
  simp only [okP_obind]
  refine okP_of (lc_mapA pcD (fun z => if z.2.2.1 = z.2.2.2 then some (N (z.2.1 - z.1)) else none) fun z hz => ?_) ?_
  · obtain ⟨_, lt, _⟩ := hS.mem z hz
    by_cases c : z.2.2.1 = z.2.2.2
    · have c' : (z.2.2.1 : Int) = z.2.2.2 := by omega
      simp [okP_some, pcD, c, Int.natCast_sub (Nat.le_of_lt lt)]
    · have c' : ¬ (z.2.2.1 : Int) = z.2.2.2 := by omega
      simp [okP_some, pcD, c, c']
  · have e : l'.filterMap (fun z => if z.2.2.1 = z.2.2.2 then some (N (z.2.1 - z.1)) else none) = Ns ((sameL l').map fun z => z.2.1 - z.1) := by
      clear hS hS' sp hl lz
      induction l' with
      | nil => rfl
      | cons z r ih =>
        unfold sameL at *
        by_cases c : z.2.2.1 = z.2.2.2
        · rw [List.filterMap_cons, if_pos c, List.filter_cons_of_pos (by simpa using c)]
          simp only [ih, List.map_cons]
          rfl
        · rw [List.filterMap_cons, if_neg c, List.filter_cons_of_neg (by simpa using c)]
          exact ih
    rw [e]
    have s3 := P.sum_ok ((sameL l').map fun z => z.2.1 - z.1)
    have od := odds_of_ok (lenL (sameL l')) (ts.sum * us.sum) (Nat.mul_pos ht.pos hu.pos) (((ht.sm hL).mul (hu.sm hL)).mono (by decide))
    have e3 : ((sameL l').map fun z => z.2.1 - z.1).sum = lenL (sameL l') := rfl
    rw [e3] at s3
    simp only [N, Int.natCast_mul] at s3 od
    simp [okP_some, s1, s2, s3, m1, od, -bSum_l, -opMul_ii]
    rfl
def PtI (ts us : List Nat) (l : List Pc) (r : List Pc) (s : DSt) : Prop := ∃ done o4 o5 o6 o7, done ++ r = l ∧ nd o4 = true ∧ nd o5 = true ∧ nd o6 = true ∧ nd o7 = true ∧
  s = [some (.d (tab ts)), some (.d (tab us)), some (.d (.int ((ts.sum * us.sum : Nat) : Int))), some (.own ((partL done).map (stD (ts.sum * us.sum)))), o4, o5, o6, o7]
theorem parted_ok (ht : Tb L ts) (hu : Tb L us) (hL : L ≤ 8) {l : List Pc} (hS : Spn ts us 0 l) (hl : l.length ≤ 16) : m_parted_spans [.d (tab ts), .d (tab us)] = some (.own ((partL l).map (stD (ts.sum * us.sum))), []) := by
  obtain ⟨l', hS', sp⟩ := spans_ok (ts := ts) (us := us) (by rw [ht.len]; omega) (by rw [hu.len]; omega) ((ht.sm hL).mono (by decide)) ((hu.sm hL).mono (by decide)) ht.pos hu.pos
  have := hS'.uniq hS
  subst this
  refine okP.eq ?_
  have h1 := P.look_two_ok (ts := ts) (us := us) (by rw [ht.len]; omega) (by rw [ht.len, hu.len]) ht.pos hu.pos
  have s1 := P.sum_ok ts
  have s2 := P.sum_ok us
  have m1 := mul_ok (a := ts.sum) (b := us.sum) ((ht.sm hL).mono (by decide)) ((hu.sm hL).mono (by decide))
  have hR : 0 < ts.sum * us.sum := Nat.mul_pos ht.pos hu.pos
  have sR : Sm 100 (ts.sum * us.sum) := (ht.sm hL).mul (hu.sm hL)
  simp only [N] at s1 s2 m1
  simp [m_parted_spans, g_parted_spans, run_ap, startD, DL.sizeLine_eq, h1, sp, s1, s2, m1, -bSum_l, -opMul_ii, -Int.natCast_mul]
  simp only [okP_obind]
  refine for_list pcD (PtI ts us l') (l := l') ⟨[], none, none, none, none, rfl, rfl, rfl, rfl, rfl, rfl⟩ ?_ ?_
  · rintro z r s ⟨done, o4, o5, o6, o7, hd, n4, n5, n6, n7, rfl⟩
    have hfl : (partL done).length < 16777216 := by
      have h1 : (partL done).length ≤ done.length := List.length_filter_le _ _
      have := congrArg List.length hd
      simp at this
      omega
    have o1 := odds_of_ok z.1 (ts.sum * us.sum) hR (sR.mono (by decide))
    have o2 := odds_of_ok z.2.1 (ts.sum * us.sum) hR (sR.mono (by decide))
    have q1 : Q (mkRat (z.1 : Nat) (ts.sum * us.sum)) = eQ (ts.sum * us.sum) z.1 := rfl
    have q2 : Q (mkRat (z.2.1 : Nat) (ts.sum * us.sum)) = eQ (ts.sum * us.sum) z.2.1 := rfl
    rw [q1] at o1
    rw [q2] at o2
    simp only [N] at o1 o2
    by_cases c : z.2.2.1 = z.2.2.2
    · have c' : (z.2.2.1 : Int) = z.2.2.2 := by omega
      have e : partL (done ++ [z]) = partL done := by
        unfold partL
        rw [List.filter_append, List.filter_cons_of_neg (by simpa using c)]
        simp
      simp [okP_some, kSetS_nd n4, kSetS_nd n5, kSetS_nd n6, kSetS_nd n7, pcD, c, -Int.natCast_mul]
      exact ⟨done ++ [z], _, _, _, _, by simp [hd], rfl, rfl, rfl, rfl, by rw [e]⟩
    · have c' : ¬ (z.2.2.1 : Int) = z.2.2.2 := by omega
      have e : partL (done ++ [z]) = partL done ++ [z] := by
        unfold partL
        rw [List.filter_append, List.filter_cons_of_pos (by simpa using c)]
        rfl
      simp [okP_some, kSetS_nd n4, kSetS_nd n5, kSetS_nd n6, kSetS_nd n7, pcD, c, c', o1, o2, hfl, DL.sizeLine_eq, -Int.natCast_mul]
      exact ⟨done ++ [z], _, _, _, _, by simp [hd], rfl, rfl, rfl, rfl, by rw [e, List.map_append]; rfl⟩
  · rintro s ⟨done, o4, o5, o6, o7, hd, n4, n5, n6, n7, rfl⟩
    have hd : done = l' := by simpa using hd
    subst hd
    simp [okP_some]
/-! ### the law -/
theorem bd_part {R a b : Nat} (hR : 0 < R) (sR : Sm 100 R) (hb : b ≤ R) (h : a ≤ b) : m__law_less [.d (eQ R b), .d (eQ R a)] = some (.d (Q (sc R (b - a))), []) ∧ Bd 200 (sc R (b - a)) := by
  have := less_ok (bd_sc hR sR hb) (bd_sc hR sR (Nat.le_trans h hb)) (by decide) (sc_le hR h)
  rw [← sc_sub h] at this
  exact this
theorem law_alike {l : List Pc} (hS : Spn ts us 0 l) (hR : 0 < ts.sum * us.sum) (sR : Sm 100 (ts.sum * us.sum)) (hl : l.length ≤ 16) : m__law_sum [.d (.list ((sameL l).map fun z => Q (sc (ts.sum * us.sum) (z.2.1 - z.1))))] = some (.d (Q (sc (ts.sum * us.sum) (lenL (sameL l)))), []) := by
  have h := law_sum_ok (rs := (sameL l).map fun z => sc (ts.sum * us.sum) (z.2.1 - z.1)) (k := 200) (fun x hx => by
    obtain ⟨z, hz, rfl⟩ := List.mem_map.mp hx
    obtain ⟨_, h2, h3, _⟩ := hS.mem z (List.mem_filter.mp hz).1
    exact (bd_part hR sR h3 (Nat.le_of_lt h2)).2) (by
    have : (sameL l).length ≤ l.length := List.length_filter_le _ _
    simp
    omega)
  rw [List.map_map, sc_sum] at h
  exact h
theorem law_all {l : List Pc} (hS : Spn ts us 0 l) (hR : 0 < ts.sum * us.sum) (sR : Sm 100 (ts.sum * us.sum)) (hl : l.length ≤ 16) : m__law_sum [.d (.list (Q (sc (ts.sum * us.sum) (lenL (sameL l))) :: (partL l).map fun z => Q (sc (ts.sum * us.sum) (z.2.1 - z.1))))] = some (.d (.tuple [.int 1, .int 1]), []) := by
  have ln := lens l
  have la := hS.all
  rw [Nat.sub_zero] at la
  have h := law_sum_ok (rs := sc (ts.sum * us.sum) (lenL (sameL l)) :: (partL l).map fun z => sc (ts.sum * us.sum) (z.2.1 - z.1)) (k := 200) (fun x hx => by
    rcases List.mem_cons.mp hx with rfl | hx
    · exact (bd_sc hR sR (by omega)).mono (by decide)
    · obtain ⟨z, hz, rfl⟩ := List.mem_map.mp hx
      obtain ⟨_, h2, h3, _⟩ := hS.mem z (List.mem_filter.mp hz).1
      exact (bd_part hR sR h3 (Nat.le_of_lt h2)).2) (by
    have : (partL l).length ≤ l.length := List.length_filter_le _ _
    simp
    omega)
  rw [List.map_cons, List.map_map, List.sum_cons, sc_sum, ← sc_add] at h
  have e : lenL (sameL l) + ((partL l).map fun z => z.2.1 - z.1).sum = ts.sum * us.sum := by
    show lenL (sameL l) + lenL (partL l) = _
    omega
  rw [e, sc_one hR, P.Q_one] at h
  exact h
end
open P (Ns tab Q sh Bd)
theorem ix_last (xs : List D) (y : D) : opIx (.list (xs ++ [y])) (.int (-1)) = some (.d y) := by
  have e : ixAt (xs ++ [y]) (-1) = some xs.length := by
    unfold ixAt
    rw [if_neg (by decide), if_pos (by simp; omega)]
    simp
    omega
  show (ixAt (xs ++ [y]) (-1)).bind _ = _
  rw [e]
  show ((xs ++ [y])[xs.length]?).bind _ = _
  simp
theorem tri_ne {R : Nat} (hR : 0 < R) (a b : Nat) (p q p' q' : Nat) (h : ¬ (a = b ∧ p = p' ∧ q = q')) : opEq (.tuple [eQ R a, .int (p : Nat), .int (q : Nat)]) (.tuple [eQ R b, .int (p' : Nat), .int (q' : Nat)]) = some (.d (.bool false)) := by
  have ii : ∀ (x u v : Nat), P.intd (.tuple [eQ R x, .int (u : Nat), .int (v : Nat)]) = true ∧ (PyData.tuple [eQ R x, .int (u : Nat), .int (v : Nat)]).depth ≤ 64 := fun x u v => by
    obtain ⟨i1, i2⟩ := P.Q_intd (sc R x)
    constructor
    · simp [P.intd, P.intdAll, eQ, i1]
    · simp [PyData.depth, PyData.depthAll, eQ, i2]
  refine (P.intd_eq (ii a p q).1 (ii b p' q').1 (ii a p q).2 (ii b p' q').2 (b := false) ?_).1
  constructor
  · intro z; cases z
  · intro z
    exfalso
    simp only [PyData.tuple.injEq, List.cons.injEq, PyData.int.injEq, and_true] at z
    exact h ⟨sc_inj hR (P.Q_inj z.1), by omega, by omega⟩
section
variable {ts us : List Nat} {L : Nat}
def LpI (ts us : List Nat) (S : D) (r : List Pc) (s : DSt) : Prop := ∃ (x : Nat) (F : List Pc) (o2 o3 o4 o5 : Option SV), Spn ts us x r ∧ (∀ z ∈ F, z.2.1 ≤ x ∧ z.2.1 = hi2 ts us z.2.2.1 z.2.2.2) ∧ F.length + r.length ≤ 100 ∧ nd o2 = true ∧ nd o3 = true ∧ nd o4 = true ∧ nd o5 = true ∧
  ∃ l0, S = .list (l0.map (stD (ts.sum * us.sum))) ∧ F ++ partL r = partL l0 ∧ s = [some (.d S), some (.own (F.map (stD (ts.sum * us.sum)))), o2, o3, o4, o5]
theorem law_parted {l : List Pc} (hS : Spn ts us 0 l) (hR : 0 < ts.sum * us.sum) (hl : l.length ≤ 16) : m__law_parted [.d (.list (l.map (stD (ts.sum * us.sum))))] = some (.own ((partL l).map (stD (ts.sum * us.sum))), []) := by
  refine okP.eq ?_
  simp [m__law_parted, g__law_parted, run_ap, startD, DL.sizeLine_eq]
  simp only [okP_obind]
  refine for_list (stD (ts.sum * us.sum)) (LpI ts us (.list (l.map (stD (ts.sum * us.sum))))) (l := l) ⟨0, [], none, none, none, none, hS, by simp, by simp; omega, rfl, rfl, rfl, rfl, l, rfl, rfl, rfl⟩ ?_ ?_
  · rintro z r s ⟨x, F, o2, o3, o4, o5, hSp, hF, hlen, n2, n3, n4, n5, l0, eS, e0, rfl⟩
    obtain ⟨zx, zh, zp, zq⟩ := z
    simp only [List.length_cons] at hlen
    have hFl : F.length < 16777216 := by omega
    cases hSp with
    | cons A B c =>
      have hx : x < hi2 ts us zp zq := by
        have := A.hi
        have := B.hi
        unfold hi2
        omega
      have hF' : ∀ z ∈ F, z.2.1 ≤ hi2 ts us zp zq ∧ z.2.1 = hi2 ts us z.2.2.1 z.2.2.2 := fun z hz => ⟨Nat.le_trans (hF z hz).1 (Nat.le_of_lt hx), (hF z hz).2⟩
      by_cases cpq : zp = zq
      · have c' : (zp : Int) = zq := by omega
        have pe : partL ((x, hi2 ts us zp zq, zp, zq) :: r) = partL r := by
          unfold partL
          rw [List.filter_cons_of_neg (by simpa using cpq)]
        rw [pe] at e0
        subst cpq
        simp [okP_some, kSetS_nd n2, kSetS_nd n3, kSetS_nd n4, kSetS_nd n5, stD]
        exact ⟨_, F, _, _, _, _, c, hF', by omega, rfl, rfl, rfl, rfl, l0, eS, e0, rfl⟩
      · have c' : ¬ (zp : Int) = zq := by omega
        have pe : partL ((x, hi2 ts us zp zq, zp, zq) :: r) = (x, hi2 ts us zp zq, zp, zq) :: partL r := by
          unfold partL
          rw [List.filter_cons_of_pos (by simpa using cpq)]
        rw [pe] at e0
        have fin : LpI ts us (.list (l.map (stD (ts.sum * us.sum)))) r [some (.d (.list (l.map (stD (ts.sum * us.sum))))), some (.own ((F ++ [(x, hi2 ts us zp zq, zp, zq)]).map (stD (ts.sum * us.sum)))), some (.d (eQ (ts.sum * us.sum) x)), some (.d (eQ (ts.sum * us.sum) (hi2 ts us zp zq))), some (.d (N zp)), some (.d (N zq))] :=
          ⟨_, F ++ [(x, hi2 ts us zp zq, zp, zq)], _, _, _, _, c, fun z hz => by
            rcases List.mem_append.mp hz with h | h
            · exact hF' z h
            · have : z = (x, hi2 ts us zp zq, zp, zq) := by simpa using h
              subst this
              exact ⟨Nat.le_refl _, rfl⟩, by simp; omega, rfl, rfl, rfl, rfl, l0, eS, by simp [e0], rfl⟩
        rw [List.map_append] at fin
        simp only [List.map_cons, List.map_nil, stD] at fin
        rcases List.eq_nil_or_concat F with hnil | ⟨F0, w, hw⟩
        · subst hnil
          simp [okP_some, kSetS_nd n2, kSetS_nd n3, kSetS_nd n4, kSetS_nd n5, stD, c', cpq, ne_nil, DL.sizeLine_eq]
          exact fin
        · have hwF : w ∈ F := by rw [hw]; simp
          obtain ⟨w1, w2⟩ := hF w hwF
          have nn : opNe (.list (F.map (stD (ts.sum * us.sum)))) (.list []) = some (.d (.bool true)) := by
            have fl : flat (.list (F.map (stD (ts.sum * us.sum)))) = true := by
              have i : P.intd (.list (F.map (stD (ts.sum * us.sum)))) = true := by
                show P.intdAll _ = true
                exact P.intd_map fun a _ => by
                  have i1 := (P.Q_intd (sc (ts.sum * us.sum) a.1)).1
                  have i2 := (P.Q_intd (sc (ts.sum * us.sum) a.2.1)).1
                  simp [stD, P.intd, P.intdAll, eQ, i1, i2]
              have d : PyData.depthAll (F.map (stD (ts.sum * us.sum))) ≤ 2 := P.depth_map fun a _ => by
                have i1 := (P.Q_intd (sc (ts.sum * us.sum) a.1)).2
                have i2 := (P.Q_intd (sc (ts.sum * us.sum) a.2.1)).2
                simp [stD, PyData.depth, PyData.depthAll, eQ, i1, i2]
              have := P.intd_plain _ i
              simp [flat, this, PyData.depth]
              omega
            rw [P.ne_list fl]
            rw [hw]
            simp
          have il : opIx (.list (F.map (stD (ts.sum * us.sum)))) (.int (-1)) = some (.d (stD (ts.sum * us.sum) w)) := by
            rw [hw, List.concat_eq_append, List.map_append]
            exact ix_last _ _
          have te := tri_ne hR w.2.1 x w.2.2.1 w.2.2.2 zp zq (by
            rintro ⟨a, b, c⟩
            have a1 := A.hi
            have b1 := B.hi
            rw [w2, b, c] at a
            unfold hi2 at a
            omega)
          have cu : cutD [eQ (ts.sum * us.sum) w.1, eQ (ts.sum * us.sum) w.2.1, .int (w.2.2.1 : Nat), .int (w.2.2.2 : Nat)] (some 1) none = [eQ (ts.sum * us.sum) w.2.1, .int (w.2.2.1 : Nat), .int (w.2.2.2 : Nat)] := by
            rw [drop1]
            rfl
          have sl : opSliceT (stD (ts.sum * us.sum) w) (some 1) none = some (.d (.tuple [eQ (ts.sum * us.sum) w.2.1, .int (w.2.2.1 : Nat), .int (w.2.2.2 : Nat)])) := by
            show some (Rv.d (.tuple (cutD _ _ _))) = _
            rw [← cu]
            rfl
          have st0 : stD (ts.sum * us.sum) (x, hi2 ts us zp zq, zp, zq) = .tuple [eQ (ts.sum * us.sum) x, eQ (ts.sum * us.sum) (hi2 ts us zp zq), .int (zp : Nat), .int (zq : Nat)] := rfl
          rw [st0]
          simp [okP_some, kSetS_nd n2, kSetS_nd n3, kSetS_nd n4, kSetS_nd n5, c', cpq, nn, il, sl, te, hFl, DL.sizeLine_eq, -opIx_li]
          exact fin
  · rintro s ⟨x, F, o2, o3, o4, o5, hSp, hF, hlen, n2, n3, n4, n5, l0, eS, e0, rfl⟩
    have e0' : F = partL l0 := by
      have : partL ([] : List Pc) = [] := rfl
      rw [this, List.append_nil] at e0
      exact e0
    have : (partL l0).map (stD (ts.sum * us.sum)) = (partL l).map (stD (ts.sum * us.sum)) := by
      have e2 : l.map (stD (ts.sum * us.sum)) = l0.map (stD (ts.sum * us.sum)) := by simpa using eS
      have inj : ∀ a b : Pc, stD (ts.sum * us.sum) a = stD (ts.sum * us.sum) b → a = b := fun a b h => by
        obtain ⟨a1, a2, a3, a4⟩ := a
        obtain ⟨b1, b2, b3, b4⟩ := b
        simp only [stD, PyData.tuple.injEq, List.cons.injEq, PyData.int.injEq, and_true] at h
        have h1 := sc_inj hR (P.Q_inj h.1)
        have h2 := sc_inj hR (P.Q_inj h.2.1)
        have h3 : a3 = b3 := by omega
        have h4 : a4 = b4 := by omega
        subst h1 h2 h3 h4
        rfl
      rw [(List.map_inj_right inj).mp e2]
    rw [e0', this]
    simp [okP_some]
end
open P (Ns tab Q sh Bd len_Ns of_N set_Ns sum_set ints_Ns)
def A (ts : List Nat) (i : Nat) : Rat := sh ts (ts.getD i 0)
theorem getD_le {ts : List Nat} {i : Nat} : ts.getD i 0 ≤ ts.sum := by
  by_cases h : i < ts.length
  · rw [List.getD_eq_getElem?_getD, List.getElem?_eq_getElem h]
    exact P.mem_le_sum (List.getElem_mem h)
  · simp [List.getD_eq_getElem?_getD, List.getElem?_eq_none (Nat.not_lt.mp h)]
theorem Tb.bd {L : Nat} {ts : List Nat} (h : Tb L ts) (hL : L ≤ 8) (i : Nat) : Bd 50 (A ts i) := P.bd_sh h.pos (h.sm hL) getD_le
theorem Tb.odds {L : Nat} {ts : List Nat} (h : Tb L ts) (hL : L ≤ 8) : P.m_odds_in [.d (tab ts)] = some (.own ((List.range L).map fun i => Q (A ts i)), []) := by
  rw [P.odds_in_ok (by rw [h.len]; omega) h.pos ((h.sm hL).mono (by decide)), P.map_range 0, h.len]
  rfl
def mn (a b : Rat) : Rat := if a < b then a else b
theorem bd_mn {k : Nat} {a b : Rat} (h : Bd k a) (h' : Bd k b) : Bd k (mn a b) := by
  unfold mn
  split
  · exact h
  · exact h'
section
variable {L : Nat} {ts us : List Nat}
theorem commonT_ok (ht : Tb L ts) (hu : Tb L us) (hL : L ≤ 8) : m_common_odds [.d (tab ts), .d (tab us)] = some (.own ((List.range L).map fun i => Q (mn (A ts i) (A us i))), []) := by
  refine okP.eq ?_
  have o1 := ht.odds hL
  have o2 := hu.odds hL
  have hL2 : L ≤ 16777216 := by omega
  simp [m_common_odds, g_common_odds, run_ap, startD, o1, o2, P.zip_range, List.map_map, hL2, DL.sizeLine_eq]
  simp only [okP_obind]
  refine okP_of (lc_mapE _ (fun i => Q (mn (A ts i) (A us i))) fun i hi => ?_) ?_
  · have b := P.below_ok (ht.bd hL i) (hu.bd hL i) (by decide)
    by_cases c : A ts i < A us i <;> simp [okP_some, b, c, mn]
  · simp [okP_some]
def both (L : Nat) (ts us : List Nat) : Rat := ((List.range L).map fun i => mn (A ts i) (A us i)).sum
theorem both_ok (ht : Tb L ts) (hu : Tb L us) (hL : L ≤ 8) : P.m_total [.d (.list ((List.range L).map fun i => Q (mn (A ts i) (A us i))))] = some (.d (Q (both L ts us)), []) ∧ Bd 700 (both L ts us) := by
  have h := P.total_ok (rs := (List.range L).map fun i => mn (A ts i) (A us i)) (k := 50) (fun r hr => by
    obtain ⟨i, _, rfl⟩ := List.mem_map.mp hr
    exact bd_mn (ht.bd hL i) (hu.bd hL i)) (by simp; omega)
  rw [List.map_map] at h
  refine ⟨h.1, h.2.mono ?_⟩
  simp
  omega
theorem overlap_ok (ht : Tb L ts) (hu : Tb L us) (hL : L ≤ 8) : m_overlap [.d (tab ts), .d (tab us)] = some (.d (Q (both L ts us)), []) := by
  have h1 := P.look_two_ok (ts := ts) (us := us) (by rw [ht.len]; omega) (by rw [ht.len, hu.len]) ht.pos hu.pos
  simp [m_overlap, g_overlap, run_ap, startD, h1, commonT_ok ht hu hL, (both_ok ht hu hL).1]
end
def mx : List Nat → Nat
  | [] => 0
  | [x] => x
  | x :: r => if x > mx r then x else mx r
theorem maxOf_n : ∀ (x : Nat) (r : List Nat), maxOf ((x :: r).map fun (k : Nat) => (k : Int)) = some ((mx (x :: r) : Nat) : Int)
  | x, [] => rfl
  | x, y :: r => by
    have ih := maxOf_n y r
    rw [List.map_cons, maxOf, ih]
    show some (if (x : Int) > (mx (y :: r) : Nat) then (x : Int) else (mx (y :: r) : Nat)) = some (((if x > mx (y :: r) then x else mx (y :: r) : Nat)) : Int)
    by_cases h : x > mx (y :: r)
    · rw [if_pos h, if_pos (by omega)]
    · rw [if_neg h, if_neg (by omega)]
theorem mx_zero : ∀ (ts : List Nat), mx ts = 0 ↔ ts.sum = 0
  | [] => by simp [mx]
  | [x] => by simp [mx]
  | x :: y :: r => by
    have ih := mx_zero (y :: r)
    simp only [mx, List.sum_cons] at ih ⊢
    by_cases h : x > mx (y :: r)
    · rw [if_pos h]
      omega
    · rw [if_neg h, ih]
      omega
theorem max_ok {ts : List Nat} (h : 0 < ts.length) : bMaxL [tab ts] = some (.d (N (mx ts))) := by
  cases ts with
  | nil => simp at h
  | cons x r =>
    rw [bMaxL_ap, ints_Ns, obind_some, maxOf_n]
    rfl
theorem table_made {n : Nat} {W : List D} (hn : n ≤ 400000) (hP : Gen n W) {places : Nat} (h0 : 1 ≤ places) (hp : places ≤ 8) :
    okP (m__law_table [.m W, .d (N places)]) fun r => ∃ ts P', r = (.own (Ns ts), [P']) ∧ ts.length = places ∧ 0 < ts.sum ∧ (∀ t ∈ ts, t ≤ 1000000000001) ∧ Gen (n + 60) P' := by
  obtain ⟨y, P1, hy, hP1, h1⟩ := pick_ok (by omega) hP [.int 2, .int 3, .int 6, .int 6, .int 40, .int 1000000000000] (by simp) (by simp)
  obtain ⟨most, rfl, hm1, hm2⟩ : ∃ k : Nat, y = N k ∧ 2 ≤ k ∧ k ≤ 1000000000000 := by
    simp only [List.mem_cons, List.not_mem_nil, or_false] at hy
    rcases hy with rfl | rfl | rfl | rfl | rfl | rfl
    · exact ⟨2, rfl, by decide, by decide⟩
    · exact ⟨3, rfl, by decide, by decide⟩
    · exact ⟨6, rfl, by decide, by decide⟩
    · exact ⟨6, rfl, by decide, by decide⟩
    · exact ⟨40, rfl, by decide, by decide⟩
    · exact ⟨1000000000000, rfl, by decide, by decide⟩
  have r1 := range_ok (t := places) (by omega)
  have z1 : places ≤ 16777216 := by omega
  have sm : Sm 140 most := sm_of 140 (by omega)
  simp [m__law_table, g__law_table, run_ap, startD, DL.sizeLine_eq, h1, r1, z1, -iRange1_i, -bMaxL_ap]
  simp only [okP_obind]
  refine lc_wp (fun i s => ∃ Pi, s = [some (.lent Pi), some (.d (N places)), some (.d (N most)), none, none] ∧ Gen (n + 5 + 5 * i) Pi) (fun _ y => ∃ k : Nat, y = N k ∧ k ≤ 1000000000000) ⟨P1, rfl, by simpa using hP1⟩ ?_ ?_
  · rintro i x s hx ⟨Pi, rfl, hPi⟩
    have hi : i < places := by
      have := (List.getElem?_eq_some_iff.mp hx).1
      simpa using this
    obtain ⟨w, P2, hw, hP2, h2⟩ := random_ok (by omega) hPi most (by omega) sm
    simp [okP_some, h2]
    exact ⟨⟨w, rfl, by omega⟩, by rw [show n + 5 + 5 * (i + 1) = n + 5 + 5 * i + 5 by omega]; exact hP2⟩
  · rintro ys s hl hy ⟨Pi, rfl, hPi⟩
    simp at hl
    obtain ⟨ts, rfl, l, b⟩ := of_N _ ys fun y hy' => by
      obtain ⟨i, hi⟩ := List.mem_iff_getElem?.mp hy'
      exact hy i y hi
    have hl2 : ts.length = places := by rw [l, hl]
    have m1 := max_ok (ts := ts) (by omega)
    have hP3 : Gen (n + 50) Pi := hPi.up (by simp; omega)
    simp only [N] at m1
    by_cases hz : ts.sum = 0
    · have hm := (mx_zero ts).mpr hz
      rw [hm] at m1
      obtain ⟨w, P2, hw, hP2, h2⟩ := random_ok (by omega) hP3 most (by omega) sm
      obtain ⟨q, P3, hq, hP4, h3⟩ := random_ok (by omega) hP2 places (by omega) (sm_of 140 (by omega))
      have ix : q < (Ns ts).length := by rw [len_Ns]; omega
      have st := set_Ns ts q (1 + w)
      simp only [N, Int.natCast_add] at h2 h3 st
      simp [okP_some, m1, h2, h3, ix, -bMaxL_ap]
      simp at st
      refine ⟨ts.set q (1 + w), P3, ⟨st, rfl⟩, by simp [hl2], sum_set ts q (1 + w) (by omega) (by omega), fun t ht => ?_, hP4.up (by omega)⟩
      · rcases List.mem_or_eq_of_mem_set ht with h | h
        · have := b t h
          omega
        · omega
    · have hm : ¬ mx ts = 0 := fun h => hz ((mx_zero ts).mp h)
      simp [okP_some, m1, hm, -bMaxL_ap]
      exact ⟨ts, Pi, ⟨rfl, rfl⟩, hl2, by omega, fun t ht => by have := b t ht; omega, hP3.up (by omega)⟩
open P (Ns tab Q sh Bd len_Ns)
theorem tame_tab {L : Nat} {ts : List Nat} (h : Tb L ts) (hL : L ≤ 20) : Vv 1 40 (tab ts) := at_list (fun y hy => by
  obtain ⟨k, hk, rfl⟩ := List.mem_map.mp hy
  have := h.le k hk
  exact ⟨by simp [tame]; omega, by simp [PyData.depth], by simp [PyData.bulk]⟩) (by rw [P.len_Ns, h.len]; exact hL)
theorem repr_two {L : Nat} {ts us : List Nat} (ht : Tb L ts) (hu : Tb L us) (hL : L ≤ 8) : bRepr [.list [tab ts, tab us]] = some (.d (.str (PyData.shown (.list [tab ts, tab us])))) := by
  have v : Vv 2 82 (.list [tab ts, tab us]) := (vv_list (n := 1) (k := 40) (w := 2) (fun y hy => by
    simp only [List.mem_cons, List.not_mem_nil, or_false] at hy
    rcases hy with rfl | rfl
    · exact tame_tab ht (by omega)
    · exact tame_tab hu (by omega)) (by simp))
  exact repr_of _ v.t (Nat.le_trans v.d (by decide)) (Nat.le_trans v.b (by decide))
theorem mn_sc {R a b : Nat} (hR : 0 < R) : mn (sc R a) (sc R b) = sc R (min a b) := by
  unfold mn
  by_cases c : a < b
  · rw [if_pos ((sc_lt hR).mpr c), Nat.min_eq_left (Nat.le_of_lt c)]
  · rw [if_neg (fun z => c ((sc_lt hR).mp z)), Nat.min_eq_right (by omega)]
section
variable {L : Nat} {ts us : List Nat}
theorem both_sc (ht : Tb L ts) (hu : Tb L us) : both L ts us = sc (ts.sum * us.sum) ((List.range L).map fun i => min (ts.getD i 0 * us.sum) (us.getD i 0 * ts.sum)).sum := by
  rw [← sc_sum]
  unfold both
  congr 1
  apply List.map_congr_left
  intro i _
  rw [← mn_sc (Nat.mul_pos ht.pos hu.pos), sc_mul hu.pos, Nat.mul_comm ts.sum, sc_mul ht.pos]
  rfl
theorem sum_leN {α : Type} {f g : α → Nat} : ∀ l : List α, (∀ a ∈ l, f a ≤ g a) → (l.map f).sum ≤ (l.map g).sum
  | [], _ => Nat.le_refl _
  | x :: r, h => by
    have := sum_leN r fun a ha => h a (by simp [ha])
    have := h x (by simp)
    simp only [List.map_cons, List.sum_cons]
    omega
theorem most_ok (ht : Tb L ts) (hu : Tb L us) {l : List Pc} (hS : Spn ts us 0 l) : ¬ both L ts us < sc (ts.sum * us.sum) (lenL (sameL l)) ∧ (L < 3 → sc (ts.sum * us.sum) (lenL (sameL l)) = both L ts us) := by
  have hR : 0 < ts.sum * us.sum := Nat.mul_pos ht.pos hu.pos
  rw [both_sc ht hu, hS.same (by rw [ht.len, hu.len]), ht.len]
  constructor
  · intro h
    have h := (sc_lt hR).mp h
    have := sum_leN (f := ov ts us 0) (g := fun i => min (ts.getD i 0 * us.sum) (us.getD i 0 * ts.sum)) (List.range L) fun i _ => ov_le i
    omega
  · intro h3
    congr 2
    apply List.map_congr_left
    intro i hi
    exact ov_two (by rw [ht.len, hu.len]) (by rw [ht.len]; omega) (by rw [ht.len]; exact List.mem_range.mp hi)
end
open P (Ns tab Q sh Bd len_Ns)
theorem fm_all {α β : Type} (f : α → β) (l : List α) : l.filterMap (fun a => some (f a)) = l.map f := by simp
theorem fm_same (f : Pc → D) : ∀ l : List Pc, l.filterMap (fun z => if z.2.2.1 = z.2.2.2 then some (f z) else none) = (sameL l).map f
  | [] => rfl
  | z :: r => by
    have ih := fm_same f r
    unfold sameL at *
    by_cases c : z.2.2.1 = z.2.2.2
    · rw [List.filterMap_cons, if_pos c, List.filter_cons_of_pos (by simpa using c)]
      simp only [ih, List.map_cons]
    · rw [List.filterMap_cons, if_neg c, List.filter_cons_of_neg (by simpa using c)]
      exact ih
theorem eq_str (z : Str) : opEq (.str z) (.str z) = some (.d (.bool true)) := by simp [opEq, flat, PyData.plain, PyData.depth, P.beq_self_str]
theorem okS_stR (R : Nat) (l : List Pc) (hl : l.length ≤ 16) : okS 7 (.list (l.map (stD R))) := by
  refine ⟨by simp; omega, fun y hy => ?_⟩
  obtain ⟨z, _, rfl⟩ := List.mem_map.mp hy
  simp [okS, stD, eQ, Q]
def TrQ (n : Nat) (r : Rt × List (List D)) : Prop := ∃ W', Gen (n + 130) W' ∧ r = (.d (.bool true), [W'])
theorem two_right {n : Nat} {W : List D} (hn : n ≤ 390000) (hP : Gen n W) {L : Nat} (h0 : 1 ≤ L) (hL : L ≤ 8) : okP (m__law_two_right [.m W, .d (N L)]) (TrQ n) := by
  obtain ⟨_, e1, ts, P1, rfl, l1, p1, b1, hP1⟩ := table_made (by omega) hP h0 hL
  obtain ⟨_, e2, vs, P2, rfl, l2, p2, b2, hP2⟩ := table_made (by omega) hP1 h0 hL
  obtain ⟨w, P3, hw, hP3, e3⟩ := random_ok (by omega) hP2 5 (by omega) (sm_of 140 (by omega))
  replace e3 : m__law_random [.m P2, .d (.int 5)] = some (.d (.int (w : Nat)), [P3]) := e3
  have r2 : Gen (n + 130) P3 := hP3.up (by omega)
  have T1 : Tb L ts := ⟨l1, p1, fun t h => by have := b1 t h; omega⟩
  have lz : (Ns ts).length ≤ 16777216 := by rw [len_Ns]; omega
  simp [m__law_two_right, g__law_two_right, run_ap, startD, e1, e2, e3]
  rw [okP_obind, okP_obind]
  refine okP.mono (Q := fun r => ∃ us X, Tb L us ∧ (X = .d (tab us) ∨ X = .own (Ns us)) ∧ r = (.nx, [some (.lent P3), some (.d (N L)), some (.d (tab ts)), some X, none, none, none, none, none, none, none, none, none, none, none])) ?_ ?_
  · by_cases c : w = 0
    · subst c
      simp [DL.sizeLine_eq, lz]
      simp only [okP_obind]
      refine okP_of (lc_mapE (fun t : Nat => N t) (fun t => N (t * 3)) (l := ts) fun t ht => ?_) ?_
      · have := b1 t ht
        have m3 : Sm 50 3 := sm_of 50 (by omega)
        have m : opMul (.int (t : Nat)) (.int 3) = some (.d (N (t * 3))) := mul_ok (a := t) (b := 3) ((sm_of 50 (by omega) : Sm 50 t).mono (by decide)) (m3.mono (by decide))
        simp [okP_some, m, -opMul_ii]
      · simp [okP_some]
        refine ⟨ts.map (· * 3), ⟨by simpa using l1, ?_, fun x hx => ?_⟩, by simp [Ns]⟩
        · rw [P.sum_mul]
          omega
        · obtain ⟨t, ht, rfl⟩ := List.mem_map.mp hx
          have := b1 t ht
          omega
    · simp [okP_some, c]
      exact ⟨vs, ⟨l2, p2, fun t h => by have := b2 t h; omega⟩, rfl⟩
  · rintro _ ⟨us, X, T2, hX, rfl⟩
    have hR : 0 < ts.sum * us.sum := Nat.mul_pos T1.pos T2.pos
    have sR : Sm 100 (ts.sum * us.sum) := (T1.sm hL).mul (T2.sm hL)
    obtain ⟨l, hS, hl, st⟩ := stretches_ok T1 T2 hL
    have rp := repr_two T1 T2 hL
    simp only [tab] at rp st
    have lz2 : l.length ≤ 16777216 := by omega
    rcases hX with rfl | rfl
    all_goals
      simp [DL.sizeLine_eq, rp, st, lz2]
      simp only [okP_obind]
      refine okP_of (lc_mapA (stD (ts.sum * us.sum)) (fun z => if z.2.2.1 = z.2.2.2 then some (Q (sc (ts.sum * us.sum) (z.2.1 - z.1))) else none) fun z hz => ?_) ?_
      · obtain ⟨h1, h2, h3, h4⟩ := hS.mem z hz
        have ls := (bd_part hR sR h3 (Nat.le_of_lt h2)).1
        by_cases c : z.2.2.1 = z.2.2.2
        · simp [okP_some, stD, c, ls]
        · have c' : ¬ (z.2.2.1 : Int) = z.2.2.2 := by omega
          simp [okP_some, stD, c, c']
      · rw [fm_same (fun z => Q (sc (ts.sum * us.sum) (z.2.1 - z.1)))]
        have la := law_alike hS hR sR hl
        have lp := law_parted hS hR hl
        have po := parted_ok T1 T2 hL hS hl
        have ao := alike_ok T1 T2 hL hS hl
        have sq := same_ok 7 _ (okS_Q 6 (sc (ts.sum * us.sum) (lenL (sameL l))))
        have pl : (partL l).length ≤ 16 := Nat.le_trans (List.length_filter_le _ _) hl
        have sp := same_ok 7 _ (okS_stR (ts.sum * us.sum) (partL l) pl)
        have lz3 : (partL l).length ≤ 16777216 := by omega
        simp only [tab] at po ao
        simp [okP_some, la, lp, po, ao, sq, sp, DL.sizeLine_eq, lz3]
        simp only [okP_obind]
        refine okP_of (lc_mapE (stD (ts.sum * us.sum)) (fun z => Q (sc (ts.sum * us.sum) (z.2.1 - z.1))) fun z hz => ?_) ?_
        · obtain ⟨h1, h2, h3, h4⟩ := hS.mem z (List.mem_filter.mp hz).1
          have ls := (bd_part hR sR h3 (Nat.le_of_lt h2)).1
          simp [okP_some, stD, ls]
        · have al := law_all hS hR sR hl
          have ne := (P.Q_eq 1 1).2
          rw [P.Q_one] at ne
          have ov := overlap_ok T1 T2 hL
          simp only [tab] at ov
          have leR : lenL (sameL l) ≤ ts.sum * us.sum := by
            have ln := lens l
            have la := hS.all
            omega
          have bo := (both_ok T1 T2 hL).2
          have be := P.below_ok bo (bd_sc hR sR leR) (by decide)
          obtain ⟨m1, m2⟩ := most_ok T1 T2 hS
          have ne2 := (P.Q_eq (sc (ts.sum * us.sum) (lenL (sameL l))) (both L ts us)).2
          have es := eq_str (PyData.list [PyData.list (Ns ts), PyData.list (Ns us)]).shown
          have lz5 : (partL l).length < 16777216 := by omega
          have lz4 : 1 + (partL l).length ≤ 16777216 := by omega
          simp [okP_some, al, ne, ov, be, m1, DL.sizeLine_eq, lz4]
          by_cases c : L < 3
          · have c' : (L : Int) < 3 := by omega
            have ne3 : opNe (Q (sc (ts.sum * us.sum) (lenL (sameL l)))) (Q (both L ts us)) = some (.d (.bool false)) := by
              rw [ne2]
              simp [m2 c]
            simp [c', ne3, rp, sp, po, TrQ, okP_some, DL.sizeLine_eq, lz5, es]
            exact r2
          · have c' : ¬ (L : Int) < 3 := by omega
            simp [c', rp, sp, po, TrQ, okP_some, DL.sizeLine_eq, lz5, es]
            exact r2
open P (Ns tab Q sh Bd len_Ns)
def LwI (S : SV) (r : List Nat) (s : DSt) : Prop := ∃ o1 o2, (∀ i ∈ r, i ≤ 100) ∧ nd o1 = true ∧ nd o2 = true ∧ s = [some S, o1, o2]
theorem law_true : ∀ ns : List Int, ns.length ≤ 63 → m_law [.d (.list (ns.map .int))] = some (.d (.bool true), []) := by
  intro ns hn
  refine okP.eq ?_
  have r2 : iRange1 [.int 2] = some ((List.range 2).map fun i => .int (i : Nat)) := by simp
  simp [m_law, g_law, run_ap, startD, r2, -iRange1_i]
  simp only [okP_obind]
  refine for_list (fun i : Nat => PyData.int (i : Nat)) (LwI (.d (.list (ns.map .int)))) (l := List.range 2) ⟨none, none, fun i hi => by have := List.mem_range.mp hi; omega, rfl, rfl, rfl⟩ ?_ ?_
  · rintro i r s ⟨o1, o2, hr, n1, n2, rfl⟩
    have hi := hr i (by simp)
    obtain ⟨G, hG, e1⟩ := generator_ok ns i hi
    simp [okP_some, kSetS_nd n1, kSetS_nd n2, e1]
    simp only [okP_obind]
    refine (short_right (n := 1000 * i) (by omega) hG).mono fun q hq => ?_
    obtain ⟨G1, h1, rfl⟩ := hq
    obtain ⟨w, G2, hw, h2, e2⟩ := random_ok (by omega) h1 6 (by omega) (sm_of 140 (by omega))
    replace e2 : m__law_random [.m G1, .d (.int 6)] = some (.d (.int (w : Nat)), [G2]) := e2
    obtain ⟨L, hL⟩ : ∃ L, L = 1 + w := ⟨_, rfl⟩
    have ew : (1 : Int) + (w : Int) = (L : Nat) := by omega
    simp [okP_some, e2, ew]
    simp only [okP_obind]
    refine (two_right (n := 1000 * i + 30 + 5) (by omega) h2 (L := L) (by omega) (by omega)).mono fun q hq => ?_
    obtain ⟨G3, h3, rfl⟩ := hq
    simp [okP_some]
    simp only [okP_obind]
    refine (two_right (n := 1000 * i + 30 + 5 + 130) (by omega) h3 (L := 2) (by omega) (by omega)).mono fun q hq => ?_
    obtain ⟨G4, h4, rfl⟩ := hq
    simp [okP_some]
    exact ⟨_, _, fun j hj => hr j (by simp [hj]), rfl, rfl, rfl⟩
  · rintro s ⟨o1, o2, _, n1, n2, rfl⟩
    simp [okP_some]
end K30
end

section
set_option Elab.async false
set_option linter.all false
set_option maxRecDepth 100000
set_option maxHeartbeats 4000000
namespace K30
open PySem PySem.Spec PyProof.Rows L2 DL
def topS (i : Nat) : Stmt := PySem.Challenge.pw_saidahead_k30_whole_shortest_draws_and_t.main.body.getD i (.Pass ⟨0, 0, 0, 0⟩)
abbrev s_is_count : Stmt := topS 7
abbrev N_is_count : List Str := ["value", "least"]
theorem sc_is_count : FnScope N_is_count ["value", "least"] (defScope s_is_count) := ⟨rfl, rfl, rfl, by decide +kernel, rfl, by decide +kernel, by decide +kernel⟩
abbrev s_divisor : Stmt := topS 8
abbrev N_divisor : List Str := ["one", "other"]
theorem sc_divisor : FnScope N_divisor ["one", "other"] (defScope s_divisor) := ⟨rfl, rfl, rfl, by decide +kernel, rfl, by decide +kernel, by decide +kernel⟩
abbrev s_is_odds : Stmt := topS 9
abbrev N_is_odds : List Str := ["value"]
theorem sc_is_odds : FnScope N_is_odds ["value"] (defScope s_is_odds) := ⟨rfl, rfl, rfl, by decide +kernel, rfl, by decide +kernel, by decide +kernel⟩
abbrev s_by_lowest : Stmt := topS 10
abbrev N_by_lowest : List Str := ["top", "under", "common"]
theorem sc_by_lowest : FnScope N_by_lowest ["top", "under"] (defScope s_by_lowest) := ⟨rfl, rfl, rfl, by decide +kernel, rfl, by decide +kernel, by decide +kernel⟩
abbrev s_odds_of : Stmt := topS 11
abbrev N_odds_of : List Str := ["top", "under"]
theorem sc_odds_of : FnScope N_odds_of ["top", "under"] (defScope s_odds_of) := ⟨rfl, rfl, rfl, by decide +kernel, rfl, by decide +kernel, by decide +kernel⟩
abbrev s_put_together : Stmt := topS 12
abbrev N_put_together : List Str := ["one", "other"]
theorem sc_put_together : FnScope N_put_together ["one", "other"] (defScope s_put_together) := ⟨rfl, rfl, rfl, by decide +kernel, rfl, by decide +kernel, by decide +kernel⟩
abbrev s_is_below : Stmt := topS 13
abbrev N_is_below : List Str := ["one", "other"]
theorem sc_is_below : FnScope N_is_below ["one", "other"] (defScope s_is_below) := ⟨rfl, rfl, rfl, by decide +kernel, rfl, by decide +kernel, by decide +kernel⟩
abbrev s_total : Stmt := topS 14
abbrev N_total : List Str := ["some", "found", "one"]
theorem sc_total : FnScope N_total ["some"] (defScope s_total) := ⟨rfl, rfl, rfl, by decide +kernel, rfl, by decide +kernel, by decide +kernel⟩
abbrev s_are_counts : Stmt := topS 16
abbrev N_are_counts : List Str := ["value", "one"]
theorem sc_are_counts : FnScope N_are_counts ["value"] (defScope s_are_counts) := ⟨rfl, rfl, rfl, by decide +kernel, rfl, by decide +kernel, by decide +kernel⟩
abbrev s_is_table : Stmt := topS 17
abbrev N_is_table : List Str := ["value"]
theorem sc_is_table : FnScope N_is_table ["value"] (defScope s_is_table) := ⟨rfl, rfl, rfl, by decide +kernel, rfl, by decide +kernel, by decide +kernel⟩
abbrev s_look_at_table : Stmt := topS 18
abbrev N_look_at_table : List Str := ["value"]
theorem sc_look_at_table : FnScope N_look_at_table ["value"] (defScope s_look_at_table) := ⟨rfl, rfl, rfl, by decide +kernel, rfl, by decide +kernel, by decide +kernel⟩
abbrev s_look_at_two : Stmt := topS 19
abbrev N_look_at_two : List Str := ["one", "other"]
theorem sc_look_at_two : FnScope N_look_at_two ["one", "other"] (defScope s_look_at_two) := ⟨rfl, rfl, rfl, by decide +kernel, rfl, by decide +kernel, by decide +kernel⟩
abbrev s_odds_in : Stmt := topS 20
abbrev N_odds_in : List Str := ["table", "one"]
theorem sc_odds_in : FnScope N_odds_in ["table"] (defScope s_odds_in) := ⟨rfl, rfl, rfl, by decide +kernel, rfl, by decide +kernel, by decide +kernel⟩
abbrev s_common_odds : Stmt := topS 21
abbrev N_common_odds : List Str := ["one", "other", "two", "mine", "yours"]
theorem sc_common_odds : FnScope N_common_odds ["one", "other"] (defScope s_common_odds) := ⟨rfl, rfl, rfl, by decide +kernel, rfl, by decide +kernel, by decide +kernel⟩
abbrev s_overlap : Stmt := topS 22
abbrev N_overlap : List Str := ["one", "other"]
theorem sc_overlap : FnScope N_overlap ["one", "other"] (defScope s_overlap) := ⟨rfl, rfl, rfl, by decide +kernel, rfl, by decide +kernel, by decide +kernel⟩
abbrev s_is_draw : Stmt := topS 24
abbrev N_is_draw : List Str := ["value"]
theorem sc_is_draw : FnScope N_is_draw ["value"] (defScope s_is_draw) := ⟨rfl, rfl, rfl, by decide +kernel, rfl, by decide +kernel, by decide +kernel⟩
abbrev s_check_table : Stmt := topS 25
abbrev N_check_table : List Str := ["table"]
theorem sc_check_table : FnScope N_check_table ["table"] (defScope s_check_table) := ⟨rfl, rfl, rfl, by decide +kernel, rfl, by decide +kernel, by decide +kernel⟩
abbrev s_check_draw : Stmt := topS 26
abbrev N_check_draw : List Str := ["draw"]
theorem sc_check_draw : FnScope N_check_draw ["draw"] (defScope s_check_draw) := ⟨rfl, rfl, rfl, by decide +kernel, rfl, by decide +kernel, by decide +kernel⟩
abbrev s_place_given : Stmt := topS 27
abbrev N_place_given : List Str := ["table", "draw", "top", "under", "wanted", "seen", "place", "count"]
theorem sc_place_given : FnScope N_place_given ["table", "draw"] (defScope s_place_given) := ⟨rfl, rfl, rfl, by decide +kernel, rfl, by decide +kernel, by decide +kernel⟩
abbrev s_place_drawn : Stmt := topS 28
abbrev N_place_drawn : List Str := ["table", "draw"]
theorem sc_place_drawn : FnScope N_place_drawn ["table", "draw"] (defScope s_place_drawn) := ⟨rfl, rfl, rfl, by decide +kernel, rfl, by decide +kernel, by decide +kernel⟩
abbrev s_shortest_draw : Stmt := topS 29
abbrev N_shortest_draw : List Str := ["low", "high", "odds", "under", "top"]
theorem sc_shortest_draw : FnScope N_shortest_draw ["low", "high"] (defScope s_shortest_draw) := ⟨rfl, rfl, rfl, by decide +kernel, rfl, by decide +kernel, by decide +kernel⟩
abbrev s_ends_in : Stmt := topS 30
abbrev N_ends_in : List Str := ["table", "times", "found", "seen", "place", "count"]
theorem sc_ends_in : FnScope N_ends_in ["table", "times"] (defScope s_ends_in) := ⟨rfl, rfl, rfl, by decide +kernel, rfl, by decide +kernel, by decide +kernel⟩
abbrev s_shared_spans : Stmt := topS 31
abbrev N_shared_spans : List Str := ["one", "other", "first", "second", "found", "at", "beside", "low", "high", "done"]
theorem sc_shared_spans : FnScope N_shared_spans ["one", "other"] (defScope s_shared_spans) := ⟨rfl, rfl, rfl, by decide +kernel, rfl, by decide +kernel, by decide +kernel⟩
abbrev s_check_tables : Stmt := topS 32
abbrev N_check_tables : List Str := ["one", "other"]
theorem sc_check_tables : FnScope N_check_tables ["one", "other"] (defScope s_check_tables) := ⟨rfl, rfl, rfl, by decide +kernel, rfl, by decide +kernel, by decide +kernel⟩
abbrev s_alike_given : Stmt := topS 33
abbrev N_alike_given : List Str := ["one", "other", "parts", "low", "high", "place", "beside"]
theorem sc_alike_given : FnScope N_alike_given ["one", "other"] (defScope s_alike_given) := ⟨rfl, rfl, rfl, by decide +kernel, rfl, by decide +kernel, by decide +kernel⟩
abbrev s_parted_spans : Stmt := topS 34
abbrev N_parted_spans : List Str := ["one", "other", "total", "told", "low", "high", "place", "beside"]
theorem sc_parted_spans : FnScope N_parted_spans ["one", "other"] (defScope s_parted_spans) := ⟨rfl, rfl, rfl, by decide +kernel, rfl, by decide +kernel, by decide +kernel⟩
abbrev s__law_hash : Stmt := topS 36
abbrev N__law_hash : List Str := ["seed", "index", "mixed"]
theorem sc__law_hash : FnScope N__law_hash ["seed", "index"] (defScope s__law_hash) := ⟨rfl, rfl, rfl, by decide +kernel, rfl, by decide +kernel, by decide +kernel⟩
abbrev s__law_random : Stmt := topS 37
abbrev N__law_random : List Str := ["generator", "bound", "drawn", "turn"]
theorem sc__law_random : FnScope N__law_random ["generator", "bound"] (defScope s__law_random) := ⟨rfl, rfl, rfl, by decide +kernel, rfl, by decide +kernel, by decide +kernel⟩
abbrev s__law_cell : Stmt := topS 38
abbrev N__law_cell : List Str := ["script", "index"]
theorem sc__law_cell : FnScope N__law_cell ["script", "index"] (defScope s__law_cell) := ⟨rfl, rfl, rfl, by decide +kernel, rfl, by decide +kernel, by decide +kernel⟩
abbrev s__law_generator : Stmt := topS 39
abbrev N__law_generator : List Str := ["script", "index", "seed"]
theorem sc__law_generator : FnScope N__law_generator ["script", "index"] (defScope s__law_generator) := ⟨rfl, rfl, rfl, by decide +kernel, rfl, by decide +kernel, by decide +kernel⟩
abbrev s__law_pick : Stmt := topS 40
abbrev N__law_pick : List Str := ["generator", "row"]
theorem sc__law_pick : FnScope N__law_pick ["generator", "row"] (defScope s__law_pick) := ⟨rfl, rfl, rfl, by decide +kernel, rfl, by decide +kernel, by decide +kernel⟩
abbrev s__law_same : Stmt := topS 41
abbrev N__law_same : List Str := ["told", "due", "at"]
theorem sc__law_same : FnScope N__law_same ["told", "due"] (defScope s__law_same) := ⟨rfl, rfl, rfl, by decide +kernel, rfl, by decide +kernel, by decide +kernel⟩
abbrev s__law_common : Stmt := topS 42
abbrev N__law_common : List Str := ["one", "other"]
theorem sc__law_common : FnScope N__law_common ["one", "other"] (defScope s__law_common) := ⟨rfl, rfl, rfl, by decide +kernel, rfl, by decide +kernel, by decide +kernel⟩
abbrev s__law_odds : Stmt := topS 43
abbrev N__law_odds : List Str := ["top", "under", "common"]
theorem sc__law_odds : FnScope N__law_odds ["top", "under"] (defScope s__law_odds) := ⟨rfl, rfl, rfl, by decide +kernel, rfl, by decide +kernel, by decide +kernel⟩
abbrev s__law_sum : Stmt := topS 44
abbrev N__law_sum : List Str := ["some", "top", "under", "one"]
theorem sc__law_sum : FnScope N__law_sum ["some"] (defScope s__law_sum) := ⟨rfl, rfl, rfl, by decide +kernel, rfl, by decide +kernel, by decide +kernel⟩
abbrev s__law_less : Stmt := topS 45
abbrev N__law_less : List Str := ["one", "other"]
theorem sc__law_less : FnScope N__law_less ["one", "other"] (defScope s__law_less) := ⟨rfl, rfl, rfl, by decide +kernel, rfl, by decide +kernel, by decide +kernel⟩
abbrev s__law_below : Stmt := topS 46
abbrev N__law_below : List Str := ["one", "other"]
theorem sc__law_below : FnScope N__law_below ["one", "other"] (defScope s__law_below) := ⟨rfl, rfl, rfl, by decide +kernel, rfl, by decide +kernel, by decide +kernel⟩
abbrev s__law_table : Stmt := topS 47
abbrev N__law_table : List Str := ["generator", "places", "most", "found", "place"]
theorem sc__law_table : FnScope N__law_table ["generator", "places"] (defScope s__law_table) := ⟨rfl, rfl, rfl, by decide +kernel, rfl, by decide +kernel, by decide +kernel⟩
abbrev s__law_shortest : Stmt := topS 48
abbrev N__law_shortest : List Str := ["low", "high", "under", "top"]
theorem sc__law_shortest : FnScope N__law_shortest ["low", "high"] (defScope s__law_shortest) := ⟨rfl, rfl, rfl, by decide +kernel, rfl, by decide +kernel, by decide +kernel⟩
abbrev s__law_power : Stmt := topS 49
abbrev N__law_power : List Str := ["number", "found", "turn"]
theorem sc__law_power : FnScope N__law_power ["number"] (defScope s__law_power) := ⟨rfl, rfl, rfl, by decide +kernel, rfl, by decide +kernel, by decide +kernel⟩
abbrev s__law_drawn_span : Stmt := topS 50
abbrev N__law_drawn_span : List Str := ["generator", "way", "number", "under", "low", "high"]
theorem sc__law_drawn_span : FnScope N__law_drawn_span ["generator"] (defScope s__law_drawn_span) := ⟨rfl, rfl, rfl, by decide +kernel, rfl, by decide +kernel, by decide +kernel⟩
abbrev s__law_short_right : Stmt := topS 51
abbrev N__law_short_right : List Str := ["generator", "low", "high", "due", "under", "told"]
theorem sc__law_short_right : FnScope N__law_short_right ["generator"] (defScope s__law_short_right) := ⟨rfl, rfl, rfl, by decide +kernel, rfl, by decide +kernel, by decide +kernel⟩
abbrev s__law_ends : Stmt := topS 52
abbrev N__law_ends : List Str := ["table", "seen", "found", "count"]
theorem sc__law_ends : FnScope N__law_ends ["table"] (defScope s__law_ends) := ⟨rfl, rfl, rfl, by decide +kernel, rfl, by decide +kernel, by decide +kernel⟩
abbrev s__law_stretches : Stmt := topS 53
abbrev N__law_stretches : List Str := ["one", "other", "ends", "found", "low", "end", "high"]
theorem sc__law_stretches : FnScope N__law_stretches ["one", "other"] (defScope s__law_stretches) := ⟨rfl, rfl, rfl, by decide +kernel, rfl, by decide +kernel, by decide +kernel⟩
abbrev s__law_parted : Stmt := topS 54
abbrev N__law_parted : List Str := ["stretches", "found", "low", "high", "place", "beside"]
theorem sc__law_parted : FnScope N__law_parted ["stretches"] (defScope s__law_parted) := ⟨rfl, rfl, rfl, by decide +kernel, rfl, by decide +kernel, by decide +kernel⟩
abbrev s__law_two_right : Stmt := topS 55
abbrev N__law_two_right : List Str := ["generator", "places", "one", "other", "kept", "stretches", "alike", "due", "told", "most", "count", "low", "high", "place", "beside"]
theorem sc__law_two_right : FnScope N__law_two_right ["generator", "places"] (defScope s__law_two_right) := ⟨rfl, rfl, rfl, by decide +kernel, rfl, by decide +kernel, by decide +kernel⟩
abbrev s_law : Stmt := topS 56
abbrev N_law : List Str := ["script", "index", "generator"]
theorem sc_law : FnScope N_law ["script"] (defScope s_law) := ⟨rfl, rfl, rfl, by decide +kernel, rfl, by decide +kernel, by decide +kernel⟩
structure Tx (K : PySem.W.Frag) (mg : Str → Option Value) where
  f_is_count : Addr
  d_is_count : FuncData
  F_is_count : FunD K "is_count" "is_count" (defArgs s_is_count) (defBody s_is_count) (defScope s_is_count) [V.int 0] [] f_is_count d_is_count
  g_is_count : mg "is_count" = some (.ref f_is_count)
  ds1_is_count : List Value
  v1_is_count : Vals [V.int 0] ds1_is_count
  b1_is_count : Binds K d_is_count ["value", "least"] ds1_is_count
  b2_is_count : Binds K d_is_count ["value", "least"] []
  f_divisor : Addr
  d_divisor : FuncData
  F_divisor : Fun K "divisor" "divisor" s_divisor f_divisor d_divisor
  g_divisor : mg "divisor" = some (.ref f_divisor)
  b2_divisor : Binds K d_divisor ["one", "other"] []
  f_is_odds : Addr
  d_is_odds : FuncData
  F_is_odds : Fun K "is_odds" "is_odds" s_is_odds f_is_odds d_is_odds
  g_is_odds : mg "is_odds" = some (.ref f_is_odds)
  b1_is_odds : Binds K d_is_odds ["value"] []
  f_by_lowest : Addr
  d_by_lowest : FuncData
  F_by_lowest : Fun K "by_lowest" "by_lowest" s_by_lowest f_by_lowest d_by_lowest
  g_by_lowest : mg "by_lowest" = some (.ref f_by_lowest)
  b2_by_lowest : Binds K d_by_lowest ["top", "under"] []
  f_odds_of : Addr
  d_odds_of : FuncData
  F_odds_of : Fun K "odds_of" "odds_of" s_odds_of f_odds_of d_odds_of
  g_odds_of : mg "odds_of" = some (.ref f_odds_of)
  b2_odds_of : Binds K d_odds_of ["top", "under"] []
  f_put_together : Addr
  d_put_together : FuncData
  F_put_together : Fun K "put_together" "put_together" s_put_together f_put_together d_put_together
  g_put_together : mg "put_together" = some (.ref f_put_together)
  b2_put_together : Binds K d_put_together ["one", "other"] []
  f_is_below : Addr
  d_is_below : FuncData
  F_is_below : Fun K "is_below" "is_below" s_is_below f_is_below d_is_below
  g_is_below : mg "is_below" = some (.ref f_is_below)
  b2_is_below : Binds K d_is_below ["one", "other"] []
  f_total : Addr
  d_total : FuncData
  F_total : Fun K "total" "total" s_total f_total d_total
  g_total : mg "total" = some (.ref f_total)
  b1_total : Binds K d_total ["some"] []
  f_are_counts : Addr
  d_are_counts : FuncData
  F_are_counts : Fun K "are_counts" "are_counts" s_are_counts f_are_counts d_are_counts
  g_are_counts : mg "are_counts" = some (.ref f_are_counts)
  b1_are_counts : Binds K d_are_counts ["value"] []
  f_is_table : Addr
  d_is_table : FuncData
  F_is_table : Fun K "is_table" "is_table" s_is_table f_is_table d_is_table
  g_is_table : mg "is_table" = some (.ref f_is_table)
  b1_is_table : Binds K d_is_table ["value"] []
  f_look_at_table : Addr
  d_look_at_table : FuncData
  F_look_at_table : Fun K "look_at_table" "look_at_table" s_look_at_table f_look_at_table d_look_at_table
  g_look_at_table : mg "look_at_table" = some (.ref f_look_at_table)
  b1_look_at_table : Binds K d_look_at_table ["value"] []
  f_look_at_two : Addr
  d_look_at_two : FuncData
  F_look_at_two : Fun K "look_at_two" "look_at_two" s_look_at_two f_look_at_two d_look_at_two
  g_look_at_two : mg "look_at_two" = some (.ref f_look_at_two)
  b2_look_at_two : Binds K d_look_at_two ["one", "other"] []
  f_odds_in : Addr
  d_odds_in : FuncData
  F_odds_in : Fun K "odds_in" "odds_in" s_odds_in f_odds_in d_odds_in
  g_odds_in : mg "odds_in" = some (.ref f_odds_in)
  b1_odds_in : Binds K d_odds_in ["table"] []
  f_common_odds : Addr
  d_common_odds : FuncData
  F_common_odds : Fun K "common_odds" "common_odds" s_common_odds f_common_odds d_common_odds
  g_common_odds : mg "common_odds" = some (.ref f_common_odds)
  b2_common_odds : Binds K d_common_odds ["one", "other"] []
  f_overlap : Addr
  d_overlap : FuncData
  F_overlap : Fun K "overlap" "overlap" s_overlap f_overlap d_overlap
  g_overlap : mg "overlap" = some (.ref f_overlap)
  b2_overlap : Binds K d_overlap ["one", "other"] []
  f_is_draw : Addr
  d_is_draw : FuncData
  F_is_draw : Fun K "is_draw" "is_draw" s_is_draw f_is_draw d_is_draw
  g_is_draw : mg "is_draw" = some (.ref f_is_draw)
  b1_is_draw : Binds K d_is_draw ["value"] []
  f_check_table : Addr
  d_check_table : FuncData
  F_check_table : Fun K "check_table" "check_table" s_check_table f_check_table d_check_table
  g_check_table : mg "check_table" = some (.ref f_check_table)
  b1_check_table : Binds K d_check_table ["table"] []
  f_check_draw : Addr
  d_check_draw : FuncData
  F_check_draw : Fun K "check_draw" "check_draw" s_check_draw f_check_draw d_check_draw
  g_check_draw : mg "check_draw" = some (.ref f_check_draw)
  b1_check_draw : Binds K d_check_draw ["draw"] []
  f_place_given : Addr
  d_place_given : FuncData
  F_place_given : Fun K "place_given" "place_given" s_place_given f_place_given d_place_given
  g_place_given : mg "place_given" = some (.ref f_place_given)
  b2_place_given : Binds K d_place_given ["table", "draw"] []
  f_place_drawn : Addr
  d_place_drawn : FuncData
  F_place_drawn : Fun K "place_drawn" "place_drawn" s_place_drawn f_place_drawn d_place_drawn
  g_place_drawn : mg "place_drawn" = some (.ref f_place_drawn)
  b2_place_drawn : Binds K d_place_drawn ["table", "draw"] []
  f_shortest_draw : Addr
  d_shortest_draw : FuncData
  F_shortest_draw : Fun K "shortest_draw" "shortest_draw" s_shortest_draw f_shortest_draw d_shortest_draw
  g_shortest_draw : mg "shortest_draw" = some (.ref f_shortest_draw)
  k0_high_low_shortest_draw : KB K d_shortest_draw ["low", "high"] ["high", "low"] 0 [1, 0] []
  b2_shortest_draw : Binds K d_shortest_draw ["low", "high"] []
  f_ends_in : Addr
  d_ends_in : FuncData
  F_ends_in : Fun K "ends_in" "ends_in" s_ends_in f_ends_in d_ends_in
  g_ends_in : mg "ends_in" = some (.ref f_ends_in)
  b2_ends_in : Binds K d_ends_in ["table", "times"] []
  f_shared_spans : Addr
  d_shared_spans : FuncData
  F_shared_spans : Fun K "shared_spans" "shared_spans" s_shared_spans f_shared_spans d_shared_spans
  g_shared_spans : mg "shared_spans" = some (.ref f_shared_spans)
  b2_shared_spans : Binds K d_shared_spans ["one", "other"] []
  f_check_tables : Addr
  d_check_tables : FuncData
  F_check_tables : Fun K "check_tables" "check_tables" s_check_tables f_check_tables d_check_tables
  g_check_tables : mg "check_tables" = some (.ref f_check_tables)
  b2_check_tables : Binds K d_check_tables ["one", "other"] []
  f_alike_given : Addr
  d_alike_given : FuncData
  F_alike_given : Fun K "alike_given" "alike_given" s_alike_given f_alike_given d_alike_given
  g_alike_given : mg "alike_given" = some (.ref f_alike_given)
  k0_other_one_alike_given : KB K d_alike_given ["one", "other"] ["other", "one"] 0 [1, 0] []
  b2_alike_given : Binds K d_alike_given ["one", "other"] []
  f_parted_spans : Addr
  d_parted_spans : FuncData
  F_parted_spans : Fun K "parted_spans" "parted_spans" s_parted_spans f_parted_spans d_parted_spans
  g_parted_spans : mg "parted_spans" = some (.ref f_parted_spans)
  k0_other_one_parted_spans : KB K d_parted_spans ["one", "other"] ["other", "one"] 0 [1, 0] []
  b2_parted_spans : Binds K d_parted_spans ["one", "other"] []
  f__law_hash : Addr
  d__law_hash : FuncData
  F__law_hash : Fun K "_law_hash" "_law_hash" s__law_hash f__law_hash d__law_hash
  g__law_hash : mg "_law_hash" = some (.ref f__law_hash)
  b2__law_hash : Binds K d__law_hash ["seed", "index"] []
  f__law_random : Addr
  d__law_random : FuncData
  F__law_random : Fun K "_law_random" "_law_random" s__law_random f__law_random d__law_random
  g__law_random : mg "_law_random" = some (.ref f__law_random)
  b2__law_random : Binds K d__law_random ["generator", "bound"] []
  f__law_cell : Addr
  d__law_cell : FuncData
  F__law_cell : Fun K "_law_cell" "_law_cell" s__law_cell f__law_cell d__law_cell
  g__law_cell : mg "_law_cell" = some (.ref f__law_cell)
  b2__law_cell : Binds K d__law_cell ["script", "index"] []
  f__law_generator : Addr
  d__law_generator : FuncData
  F__law_generator : Fun K "_law_generator" "_law_generator" s__law_generator f__law_generator d__law_generator
  g__law_generator : mg "_law_generator" = some (.ref f__law_generator)
  b2__law_generator : Binds K d__law_generator ["script", "index"] []
  f__law_pick : Addr
  d__law_pick : FuncData
  F__law_pick : Fun K "_law_pick" "_law_pick" s__law_pick f__law_pick d__law_pick
  g__law_pick : mg "_law_pick" = some (.ref f__law_pick)
  b2__law_pick : Binds K d__law_pick ["generator", "row"] []
  f__law_same : Addr
  d__law_same : FuncData
  F__law_same : Fun K "_law_same" "_law_same" s__law_same f__law_same d__law_same
  g__law_same : mg "_law_same" = some (.ref f__law_same)
  b2__law_same : Binds K d__law_same ["told", "due"] []
  f__law_common : Addr
  d__law_common : FuncData
  F__law_common : Fun K "_law_common" "_law_common" s__law_common f__law_common d__law_common
  g__law_common : mg "_law_common" = some (.ref f__law_common)
  b2__law_common : Binds K d__law_common ["one", "other"] []
  f__law_odds : Addr
  d__law_odds : FuncData
  F__law_odds : Fun K "_law_odds" "_law_odds" s__law_odds f__law_odds d__law_odds
  g__law_odds : mg "_law_odds" = some (.ref f__law_odds)
  b2__law_odds : Binds K d__law_odds ["top", "under"] []
  f__law_sum : Addr
  d__law_sum : FuncData
  F__law_sum : Fun K "_law_sum" "_law_sum" s__law_sum f__law_sum d__law_sum
  g__law_sum : mg "_law_sum" = some (.ref f__law_sum)
  b1__law_sum : Binds K d__law_sum ["some"] []
  f__law_less : Addr
  d__law_less : FuncData
  F__law_less : Fun K "_law_less" "_law_less" s__law_less f__law_less d__law_less
  g__law_less : mg "_law_less" = some (.ref f__law_less)
  b2__law_less : Binds K d__law_less ["one", "other"] []
  f__law_below : Addr
  d__law_below : FuncData
  F__law_below : Fun K "_law_below" "_law_below" s__law_below f__law_below d__law_below
  g__law_below : mg "_law_below" = some (.ref f__law_below)
  b2__law_below : Binds K d__law_below ["one", "other"] []
  f__law_table : Addr
  d__law_table : FuncData
  F__law_table : Fun K "_law_table" "_law_table" s__law_table f__law_table d__law_table
  g__law_table : mg "_law_table" = some (.ref f__law_table)
  b2__law_table : Binds K d__law_table ["generator", "places"] []
  f__law_shortest : Addr
  d__law_shortest : FuncData
  F__law_shortest : Fun K "_law_shortest" "_law_shortest" s__law_shortest f__law_shortest d__law_shortest
  g__law_shortest : mg "_law_shortest" = some (.ref f__law_shortest)
  b2__law_shortest : Binds K d__law_shortest ["low", "high"] []
  f__law_power : Addr
  d__law_power : FuncData
  F__law_power : Fun K "_law_power" "_law_power" s__law_power f__law_power d__law_power
  g__law_power : mg "_law_power" = some (.ref f__law_power)
  b1__law_power : Binds K d__law_power ["number"] []
  f__law_drawn_span : Addr
  d__law_drawn_span : FuncData
  F__law_drawn_span : Fun K "_law_drawn_span" "_law_drawn_span" s__law_drawn_span f__law_drawn_span d__law_drawn_span
  g__law_drawn_span : mg "_law_drawn_span" = some (.ref f__law_drawn_span)
  b1__law_drawn_span : Binds K d__law_drawn_span ["generator"] []
  f__law_short_right : Addr
  d__law_short_right : FuncData
  F__law_short_right : Fun K "_law_short_right" "_law_short_right" s__law_short_right f__law_short_right d__law_short_right
  g__law_short_right : mg "_law_short_right" = some (.ref f__law_short_right)
  b1__law_short_right : Binds K d__law_short_right ["generator"] []
  f__law_ends : Addr
  d__law_ends : FuncData
  F__law_ends : Fun K "_law_ends" "_law_ends" s__law_ends f__law_ends d__law_ends
  g__law_ends : mg "_law_ends" = some (.ref f__law_ends)
  b1__law_ends : Binds K d__law_ends ["table"] []
  f__law_stretches : Addr
  d__law_stretches : FuncData
  F__law_stretches : Fun K "_law_stretches" "_law_stretches" s__law_stretches f__law_stretches d__law_stretches
  g__law_stretches : mg "_law_stretches" = some (.ref f__law_stretches)
  b2__law_stretches : Binds K d__law_stretches ["one", "other"] []
  f__law_parted : Addr
  d__law_parted : FuncData
  F__law_parted : Fun K "_law_parted" "_law_parted" s__law_parted f__law_parted d__law_parted
  g__law_parted : mg "_law_parted" = some (.ref f__law_parted)
  b1__law_parted : Binds K d__law_parted ["stretches"] []
  f__law_two_right : Addr
  d__law_two_right : FuncData
  F__law_two_right : Fun K "_law_two_right" "_law_two_right" s__law_two_right f__law_two_right d__law_two_right
  g__law_two_right : mg "_law_two_right" = some (.ref f__law_two_right)
  b2__law_two_right : Binds K d__law_two_right ["generator", "places"] []
  f_law : Addr
  d_law : FuncData
  F_law : Fun K "law" "law" s_law f_law d_law
  g_law : mg "law" = some (.ref f_law)
  n_all : mg "all" = none
  n_bool : mg "bool" = none
  n_enumerate : mg "enumerate" = none
  n_int : mg "int" = none
  n_isinstance : mg "isinstance" = none
  n_len : mg "len" = none
  n_list : mg "list" = none
  n_max : mg "max" = none
  n_min : mg "min" = none
  n_range : mg "range" = none
  n_repr : mg "repr" = none
  n_str : mg "str" = none
  n_sum : mg "sum" = none
  n_tuple : mg "tuple" = none
  n_zip : mg "zip" = none
section
variable {P : Program} {w : World} {K : PySem.W.Frag} {mg : Str → Option Value} {base : Heap}
theorem ok_is_count (T : Tx K mg) : FnG P w K mg base CX0 1 T.f_is_count T.d_is_count ["value", "least"] (spD K 2 m_is_count) := by
  show FnG P w K mg base CX0 (0 + 1) T.f_is_count T.d_is_count ["value", "least"] (spD K (["value", "least"] : List Str).length (run N_is_count.length g_is_count))
  refine dl_okD (N := N_is_count) (ps := ["value", "least"]) (k := 0) (b := g_is_count) T.F_is_count sc_is_count (by decide) ?_
  intro cdv A outer s H E hr gd
  exact ⟨_, dl_both (sss_one (ss_ret (se_and (se_isi tyok_int rfl T.n_isinstance (by decide +kernel) rfl T.n_int (by decide +kernel) (se_var 0)) (se_and (se_not (se_isi tyok_bool rfl T.n_isinstance (by decide +kernel) rfl T.n_bool (by decide +kernel) (se_var 0))) (se_one (se_cmp prim_cmp op_ge (nomark _) (se_var 0) (se_var 1)))))))⟩
theorem ok_divisor (T : Tx K mg) : FnG P w K mg base CX0 1 T.f_divisor T.d_divisor ["one", "other"] (spD K 2 m_divisor) := by
  show FnG P w K mg base CX0 (0 + 1) T.f_divisor T.d_divisor ["one", "other"] (spD K (["one", "other"] : List Str).length (run N_divisor.length g_divisor))
  refine dl_ok (N := N_divisor) (ps := ["one", "other"]) (k := 0) (b := g_divisor) T.F_divisor sc_divisor (by decide) ?_
  intro cdv A outer s H E hr gd
  exact ⟨_, dl_both (sss_cons (ss_while PassesOwn.never (st_cmp prim_ne (op_neP hr.units) (nomark _) (se_var 1) (se_int)) (sss_one (ss_par 0 1 rfl sc_divisor.nd rfl rfl (by decide) rfl rfl (sa_cons (se_var 1) (sa_cons (se_mod (se_var 0) (se_var 1)) (sa_nil))) rfl))) (sss_one (ss_ret (se_var 0))))⟩
theorem ok_is_odds (T : Tx K mg) : FnG P w K mg base CX0 2 T.f_is_odds T.d_is_odds ["value"] (spD K 1 m_is_odds) := by
  show FnG P w K mg base CX0 (1 + 1) T.f_is_odds T.d_is_odds ["value"] (spD K (["value"] : List Str).length (run N_is_odds.length g_is_odds))
  refine dl_ok (N := N_is_odds) (ps := ["value"]) (k := 1) (b := g_is_odds) T.F_is_odds sc_is_odds (by decide) ?_
  intro cdv A outer s H E hr gd
  exact ⟨_, dl_both (sss_cons (ss_if (st_w (sw_or (st_not (st_val (se_isi tyok_tuple rfl T.n_isinstance (by decide +kernel) rfl T.n_tuple (by decide +kernel) (se_var 0)))) (sw_or (st_cmp prim_ne (op_neP hr.units) (nomark _) (se_callB prim_len call_lenD' rfl T.n_len (by decide +kernel) (sa_cons (se_var 0) (sa_nil))) (se_int)) (sw_or (st_not (st_val (se_call (modes := [false]) (more := [PyData.int 0]) (ok_is_count T) (hr.mono (by decide)) gd rfl T.g_is_count T.F_is_count.kp (T.b1_is_count) (T.v1_is_count) (fun _ _ => .cons (.int _) (.nil)) rfl (sa_cons (se_ix (se_var 0) (se_int)) (sa_nil))))) (sw_or1 (st_not (st_val (se_call (modes := [false, false]) (more := []) (ok_is_count T) (hr.mono (by decide)) gd rfl T.g_is_count T.F_is_count.kp (T.b2_is_count) .nil (fun _ _ => .nil) rfl (sa_cons (se_ix (se_var 0) (se_int)) (sa_cons (se_int) (sa_nil))))))))))) (sss_one (ss_ret (se_bl))) (sss_nil)) (sss_one (ss_ret (se_cmp prim_eq (op_eqP hr.units) (nomark _) (se_call (modes := [false, false]) (more := []) (ok_divisor T) (hr.mono (by decide)) gd rfl T.g_divisor T.F_divisor.kp (T.b2_divisor) .nil (fun _ _ => .nil) rfl (sa_cons (se_ix (se_var 0) (se_int)) (sa_cons (se_ix (se_var 0) (se_int)) (sa_nil)))) (se_int)))))⟩
theorem ok_by_lowest (T : Tx K mg) : FnG P w K mg base CX0 2 T.f_by_lowest T.d_by_lowest ["top", "under"] (spD K 2 m_by_lowest) := by
  show FnG P w K mg base CX0 (1 + 1) T.f_by_lowest T.d_by_lowest ["top", "under"] (spD K (["top", "under"] : List Str).length (run N_by_lowest.length g_by_lowest))
  refine dl_ok (N := N_by_lowest) (ps := ["top", "under"]) (k := 1) (b := g_by_lowest) T.F_by_lowest sc_by_lowest (by decide) ?_
  intro cdv A outer s H E hr gd
  exact ⟨_, dl_both (sss_cons (ss_set 2 sc_by_lowest.nd rfl (Or.inl rfl) (se_call (modes := [false, false]) (more := []) (ok_divisor T) (hr.mono (by decide)) gd rfl T.g_divisor T.F_divisor.kp (T.b2_divisor) .nil (fun _ _ => .nil) rfl (sa_cons (se_var 0) (sa_cons (se_var 1) (sa_nil))))) (sss_one (ss_ret (se_tup (sa_cons (se_div (se_var 0) (se_var 2)) (sa_cons (se_div (se_var 1) (se_var 2)) (sa_nil)))))))⟩
theorem ok_odds_of (T : Tx K mg) : FnG P w K mg base CX0 3 T.f_odds_of T.d_odds_of ["top", "under"] (spD K 2 m_odds_of) := by
  show FnG P w K mg base CX0 (2 + 1) T.f_odds_of T.d_odds_of ["top", "under"] (spD K (["top", "under"] : List Str).length (run N_odds_of.length g_odds_of))
  refine dl_ok (N := N_odds_of) (ps := ["top", "under"]) (k := 2) (b := g_odds_of) T.F_odds_of sc_odds_of (by decide) ?_
  intro cdv A outer s H E hr gd
  exact ⟨_, dl_both (sss_cons (ss_if (st_not (st_val (se_call (modes := [false]) (more := [PyData.int 0]) (ok_is_count T) (hr.mono (by decide)) gd rfl T.g_is_count T.F_is_count.kp (T.b1_is_count) (T.v1_is_count) (fun _ _ => .cons (.int _) (.nil)) rfl (sa_cons (se_var 0) (sa_nil))))) (sss_never) (sss_nil)) (sss_cons (ss_if (st_not (st_val (se_call (modes := [false, false]) (more := []) (ok_is_count T) (hr.mono (by decide)) gd rfl T.g_is_count T.F_is_count.kp (T.b2_is_count) .nil (fun _ _ => .nil) rfl (sa_cons (se_var 1) (sa_cons (se_int) (sa_nil)))))) (sss_never) (sss_nil)) (sss_one (ss_ret (se_call (modes := [false, false]) (more := []) (ok_by_lowest T) (hr.mono (by decide)) gd rfl T.g_by_lowest T.F_by_lowest.kp (T.b2_by_lowest) .nil (fun _ _ => .nil) rfl (sa_cons (se_var 0) (sa_cons (se_var 1) (sa_nil))))))))⟩
theorem ok_put_together (T : Tx K mg) : FnG P w K mg base CX0 3 T.f_put_together T.d_put_together ["one", "other"] (spD K 2 m_put_together) := by
  show FnG P w K mg base CX0 (2 + 1) T.f_put_together T.d_put_together ["one", "other"] (spD K (["one", "other"] : List Str).length (run N_put_together.length g_put_together))
  refine dl_ok (N := N_put_together) (ps := ["one", "other"]) (k := 2) (b := g_put_together) T.F_put_together sc_put_together (by decide) ?_
  intro cdv A outer s H E hr gd
  exact ⟨_, dl_both (sss_one (ss_ret (se_call (modes := [false, false]) (more := []) (ok_by_lowest T) (hr.mono (by decide)) gd rfl T.g_by_lowest T.F_by_lowest.kp (T.b2_by_lowest) .nil (fun _ _ => .nil) rfl (sa_cons (se_add (se_mul (se_ix (se_var 0) (se_int)) (se_ix (se_var 1) (se_int))) (se_mul (se_ix (se_var 1) (se_int)) (se_ix (se_var 0) (se_int)))) (sa_cons (se_mul (se_ix (se_var 0) (se_int)) (se_ix (se_var 1) (se_int))) (sa_nil))))))⟩
theorem ok_is_below (T : Tx K mg) : FnG P w K mg base CX0 1 T.f_is_below T.d_is_below ["one", "other"] (spD K 2 m_is_below) := by
  show FnG P w K mg base CX0 (0 + 1) T.f_is_below T.d_is_below ["one", "other"] (spD K (["one", "other"] : List Str).length (run N_is_below.length g_is_below))
  refine dl_ok (N := N_is_below) (ps := ["one", "other"]) (k := 0) (b := g_is_below) T.F_is_below sc_is_below (by decide) ?_
  intro cdv A outer s H E hr gd
  exact ⟨_, dl_both (sss_one (ss_ret (se_cmp prim_cmp op_lt (nomark _) (se_mul (se_ix (se_var 0) (se_int)) (se_ix (se_var 1) (se_int))) (se_mul (se_ix (se_var 1) (se_int)) (se_ix (se_var 0) (se_int))))))⟩
theorem ok_total (T : Tx K mg) : FnG P w K mg base CX0 4 T.f_total T.d_total ["some"] (spD K 1 m_total) := by
  show FnG P w K mg base CX0 (3 + 1) T.f_total T.d_total ["some"] (spD K (["some"] : List Str).length (run N_total.length g_total))
  refine dl_ok (N := N_total) (ps := ["some"]) (k := 3) (b := g_total) T.F_total sc_total (by decide) ?_
  intro cdv A outer s H E hr gd
  exact ⟨_, dl_both (sss_cons (ss_set 1 sc_total.nd rfl (Or.inl rfl) (se_tup (sa_cons (se_int) (sa_cons (se_int) (sa_nil))))) (sss_cons (ss_for PassesOwn.never rfl (si_seq (se_var 0)) (sg_name 2 sc_total.nd rfl (Or.inl rfl)) (sss_one (ss_set 1 sc_total.nd rfl (Or.inl rfl) (se_call (modes := [false, false]) (more := []) (ok_put_together T) (hr.mono (by decide)) gd rfl T.g_put_together T.F_put_together.kp (T.b2_put_together) .nil (fun _ _ => .nil) rfl (sa_cons (se_var 1) (sa_cons (se_var 2) (sa_nil))))))) (sss_one (ss_ret (se_var 1)))))⟩
theorem ok_are_counts (T : Tx K mg) : FnG P w K mg base CX0 2 T.f_are_counts T.d_are_counts ["value"] (spD K 1 m_are_counts) := by
  show FnG P w K mg base CX0 (1 + 1) T.f_are_counts T.d_are_counts ["value"] (spD K (["value"] : List Str).length (run N_are_counts.length g_are_counts))
  refine dl_ok (N := N_are_counts) (ps := ["value"]) (k := 1) (b := g_are_counts) T.F_are_counts sc_are_counts (by decide) ?_
  intro cdv A outer s H E hr gd
  exact ⟨_, dl_both (sss_one (ss_ret (se_and (se_isi tyok_list rfl T.n_isinstance (by decide +kernel) rfl T.n_list (by decide +kernel) (se_var 0)) (se_one (se_callB prim_all (cr_all rfl) rfl T.n_all (by decide +kernel) (sa_cons (se_lc rfl sc_are_counts.nd (si_seq (se_var 0)) (blkOk_by (own := [("one", 1)]) (N := N_are_counts) (sc := defScope s_are_counts) (by decide +kernel)) (fun _ _ _ _ _ => sg_name 1 sc_are_counts.nd rfl (Or.inl rfl)) (fun _ _ _ _ _ => sts_nil) (fun _ _ _ _ _ => se_call (modes := [false]) (more := [PyData.int 0]) (ok_is_count T) (hr.mono (by decide)) gd rfl T.g_is_count T.F_is_count.kp (T.b1_is_count) (T.v1_is_count) (fun _ _ => .cons (.int _) (.nil)) rfl (sa_cons (se_var 1) (sa_nil))) rfl (by decide)) (sa_nil)))))))⟩
theorem ok_is_table (T : Tx K mg) : FnG P w K mg base CX0 3 T.f_is_table T.d_is_table ["value"] (spD K 1 m_is_table) := by
  show FnG P w K mg base CX0 (2 + 1) T.f_is_table T.d_is_table ["value"] (spD K (["value"] : List Str).length (run N_is_table.length g_is_table))
  refine dl_ok (N := N_is_table) (ps := ["value"]) (k := 2) (b := g_is_table) T.F_is_table sc_is_table (by decide) ?_
  intro cdv A outer s H E hr gd
  exact ⟨_, dl_both (sss_one (ss_ret (se_and (se_call (modes := [false]) (more := []) (ok_are_counts T) (hr.mono (by decide)) gd rfl T.g_are_counts T.F_are_counts.kp (T.b1_are_counts) .nil (fun _ _ => .nil) rfl (sa_cons (se_var 0) (sa_nil))) (se_one (se_cmp prim_cmp op_gt (nomark _) (se_callB prim_sum (cr_sum rfl) rfl T.n_sum (by decide +kernel) (sa_cons (se_var 0) (sa_nil))) (se_int))))))⟩
theorem ok_look_at_table (T : Tx K mg) : FnG P w K mg base CX0 4 T.f_look_at_table T.d_look_at_table ["value"] (spD K 1 m_look_at_table) := by
  show FnG P w K mg base CX0 (3 + 1) T.f_look_at_table T.d_look_at_table ["value"] (spD K (["value"] : List Str).length (run N_look_at_table.length g_look_at_table))
  refine dl_ok (N := N_look_at_table) (ps := ["value"]) (k := 3) (b := g_look_at_table) T.F_look_at_table sc_look_at_table (by decide) ?_
  intro cdv A outer s H E hr gd
  exact ⟨_, dl_both (sss_one (ss_if (st_not (st_val (se_call (modes := [false]) (more := []) (ok_is_table T) (hr.mono (by decide)) gd rfl T.g_is_table T.F_is_table.kp (T.b1_is_table) .nil (fun _ _ => .nil) rfl (sa_cons (se_var 0) (sa_nil))))) (sss_never) (sss_nil)))⟩
theorem ok_look_at_two (T : Tx K mg) : FnG P w K mg base CX0 5 T.f_look_at_two T.d_look_at_two ["one", "other"] (spD K 2 m_look_at_two) := by
  show FnG P w K mg base CX0 (4 + 1) T.f_look_at_two T.d_look_at_two ["one", "other"] (spD K (["one", "other"] : List Str).length (run N_look_at_two.length g_look_at_two))
  refine dl_ok (N := N_look_at_two) (ps := ["one", "other"]) (k := 4) (b := g_look_at_two) T.F_look_at_two sc_look_at_two (by decide) ?_
  intro cdv A outer s H E hr gd
  exact ⟨_, dl_both (sss_cons (ss_drop (se_call (modes := [false]) (more := []) (ok_look_at_table T) (hr.mono (by decide)) gd rfl T.g_look_at_table T.F_look_at_table.kp (T.b1_look_at_table) .nil (fun _ _ => .nil) rfl (sa_cons (se_var 0) (sa_nil)))) (sss_one (ss_if (st_w (sw_or (st_not (st_val (se_call (modes := [false]) (more := []) (ok_is_table T) (hr.mono (by decide)) gd rfl T.g_is_table T.F_is_table.kp (T.b1_is_table) .nil (fun _ _ => .nil) rfl (sa_cons (se_var 1) (sa_nil))))) (sw_or1 (st_cmp prim_ne (op_neP hr.units) (nomark _) (se_callB prim_len call_lenD' rfl T.n_len (by decide +kernel) (sa_cons (se_var 1) (sa_nil))) (se_callB prim_len call_lenD' rfl T.n_len (by decide +kernel) (sa_cons (se_var 0) (sa_nil))))))) (sss_never) (sss_nil))))⟩
theorem ok_odds_in (T : Tx K mg) : FnG P w K mg base CX0 3 T.f_odds_in T.d_odds_in ["table"] (spD K 1 m_odds_in) := by
  show FnG P w K mg base CX0 (2 + 1) T.f_odds_in T.d_odds_in ["table"] (spD K (["table"] : List Str).length (run N_odds_in.length g_odds_in))
  refine dl_ok (N := N_odds_in) (ps := ["table"]) (k := 2) (b := g_odds_in) T.F_odds_in sc_odds_in (by decide) ?_
  intro cdv A outer s H E hr gd
  exact ⟨_, dl_both (sss_one (ss_ret (se_lc rfl sc_odds_in.nd (si_seq (se_var 0)) (blkOk_by (own := [("one", 1)]) (N := N_odds_in) (sc := defScope s_odds_in) (by decide +kernel)) (fun _ _ _ _ _ => sg_name 1 sc_odds_in.nd rfl (Or.inl rfl)) (fun _ _ _ _ _ => sts_nil) (fun _ _ _ _ _ => se_call (modes := [false, false]) (more := []) (ok_by_lowest T) (hr.mono (by decide)) gd rfl T.g_by_lowest T.F_by_lowest.kp (T.b2_by_lowest) .nil (fun _ _ => .nil) rfl (sa_cons (se_var 1) (sa_cons (se_callB prim_sum (cr_sum rfl) rfl T.n_sum (by decide +kernel) (sa_cons (se_var 0) (sa_nil))) (sa_nil)))) rfl (by decide))))⟩
theorem ok_common_odds (T : Tx K mg) : FnG P w K mg base CX0 4 T.f_common_odds T.d_common_odds ["one", "other"] (spD K 2 m_common_odds) := by
  show FnG P w K mg base CX0 (3 + 1) T.f_common_odds T.d_common_odds ["one", "other"] (spD K (["one", "other"] : List Str).length (run N_common_odds.length g_common_odds))
  refine dl_ok (N := N_common_odds) (ps := ["one", "other"]) (k := 3) (b := g_common_odds) T.F_common_odds sc_common_odds (by decide) ?_
  intro cdv A outer s H E hr gd
  exact ⟨_, dl_both (sss_zipRet 2 rfl sc_common_odds.nd rfl (Or.inl rfl) rfl T.n_zip (sa_cons (se_call (modes := [false]) (more := []) (ok_odds_in T) (hr.mono (by decide)) gd rfl T.g_odds_in T.F_odds_in.kp (T.b1_odds_in) .nil (fun _ _ => .nil) rfl (sa_cons (se_var 0) (sa_nil))) (sa_cons (se_call (modes := [false]) (more := []) (ok_odds_in T) (hr.mono (by decide)) gd rfl T.g_odds_in T.F_odds_in.kp (T.b1_odds_in) .nil (fun _ _ => .nil) rfl (sa_cons (se_var 1) (sa_nil))) (sa_nil))) (blkOk_by (own := [("mine", 3), ("yours", 4)]) (N := N_common_odds) (sc := defScope s_common_odds) (by decide +kernel)) (fun _ _ _ _ _ => sg_tup rfl (sgs_cons (sg_name 3 sc_common_odds.nd rfl (Or.inl rfl)) (sgs_cons (sg_name 4 sc_common_odds.nd rfl (Or.inl rfl)) (sgs_nil)))) (fun _ _ _ _ _ => sts_nil) (fun _ _ _ _ _ => se_if (st_val (se_call (modes := [false, false]) (more := []) (ok_is_below T) (hr.mono (by decide)) gd rfl T.g_is_below T.F_is_below.kp (T.b2_is_below) .nil (fun _ _ => .nil) rfl (sa_cons (se_var 3) (sa_cons (se_var 4) (sa_nil))))) (se_var 3) (se_var 4)) rfl (by decide))⟩
theorem ok_overlap (T : Tx K mg) : FnG P w K mg base CX0 6 T.f_overlap T.d_overlap ["one", "other"] (spD K 2 m_overlap) := by
  show FnG P w K mg base CX0 (5 + 1) T.f_overlap T.d_overlap ["one", "other"] (spD K (["one", "other"] : List Str).length (run N_overlap.length g_overlap))
  refine dl_ok (N := N_overlap) (ps := ["one", "other"]) (k := 5) (b := g_overlap) T.F_overlap sc_overlap (by decide) ?_
  intro cdv A outer s H E hr gd
  exact ⟨_, dl_both (sss_cons (ss_drop (se_call (modes := [false, false]) (more := []) (ok_look_at_two T) (hr.mono (by decide)) gd rfl T.g_look_at_two T.F_look_at_two.kp (T.b2_look_at_two) .nil (fun _ _ => .nil) rfl (sa_cons (se_var 0) (sa_cons (se_var 1) (sa_nil))))) (sss_one (ss_ret (se_call (modes := [false]) (more := []) (ok_total T) (hr.mono (by decide)) gd rfl T.g_total T.F_total.kp (T.b1_total) .nil (fun _ _ => .nil) rfl (sa_cons (se_call (modes := [false, false]) (more := []) (ok_common_odds T) (hr.mono (by decide)) gd rfl T.g_common_odds T.F_common_odds.kp (T.b2_common_odds) .nil (fun _ _ => .nil) rfl (sa_cons (se_var 0) (sa_cons (se_var 1) (sa_nil)))) (sa_nil))))))⟩
theorem ok_is_draw (T : Tx K mg) : FnG P w K mg base CX0 3 T.f_is_draw T.d_is_draw ["value"] (spD K 1 m_is_draw) := by
  show FnG P w K mg base CX0 (2 + 1) T.f_is_draw T.d_is_draw ["value"] (spD K (["value"] : List Str).length (run N_is_draw.length g_is_draw))
  refine dl_ok (N := N_is_draw) (ps := ["value"]) (k := 2) (b := g_is_draw) T.F_is_draw sc_is_draw (by decide) ?_
  intro cdv A outer s H E hr gd
  exact ⟨_, dl_both (sss_one (ss_ret (se_and (se_call (modes := [false]) (more := []) (ok_is_odds T) (hr.mono (by decide)) gd rfl T.g_is_odds T.F_is_odds.kp (T.b1_is_odds) .nil (fun _ _ => .nil) rfl (sa_cons (se_var 0) (sa_nil))) (se_one (se_cmp prim_cmp op_lt (nomark _) (se_ix (se_var 0) (se_int)) (se_ix (se_var 0) (se_int)))))))⟩
theorem ok_check_table (T : Tx K mg) : FnG P w K mg base CX0 4 T.f_check_table T.d_check_table ["table"] (spD K 1 m_check_table) := by
  show FnG P w K mg base CX0 (3 + 1) T.f_check_table T.d_check_table ["table"] (spD K (["table"] : List Str).length (run N_check_table.length g_check_table))
  refine dl_ok (N := N_check_table) (ps := ["table"]) (k := 3) (b := g_check_table) T.F_check_table sc_check_table (by decide) ?_
  intro cdv A outer s H E hr gd
  exact ⟨_, dl_both (sss_one (ss_if (st_not (st_val (se_call (modes := [false]) (more := []) (ok_is_table T) (hr.mono (by decide)) gd rfl T.g_is_table T.F_is_table.kp (T.b1_is_table) .nil (fun _ _ => .nil) rfl (sa_cons (se_var 0) (sa_nil))))) (sss_never) (sss_nil)))⟩
theorem ok_check_draw (T : Tx K mg) : FnG P w K mg base CX0 4 T.f_check_draw T.d_check_draw ["draw"] (spD K 1 m_check_draw) := by
  show FnG P w K mg base CX0 (3 + 1) T.f_check_draw T.d_check_draw ["draw"] (spD K (["draw"] : List Str).length (run N_check_draw.length g_check_draw))
  refine dl_ok (N := N_check_draw) (ps := ["draw"]) (k := 3) (b := g_check_draw) T.F_check_draw sc_check_draw (by decide) ?_
  intro cdv A outer s H E hr gd
  exact ⟨_, dl_both (sss_one (ss_if (st_not (st_val (se_call (modes := [false]) (more := []) (ok_is_draw T) (hr.mono (by decide)) gd rfl T.g_is_draw T.F_is_draw.kp (T.b1_is_draw) .nil (fun _ _ => .nil) rfl (sa_cons (se_var 0) (sa_nil))))) (sss_never) (sss_nil)))⟩
theorem ok_place_given (T : Tx K mg) : FnG P w K mg base CX0 1 T.f_place_given T.d_place_given ["table", "draw"] (spD K 2 m_place_given) := by
  show FnG P w K mg base CX0 (0 + 1) T.f_place_given T.d_place_given ["table", "draw"] (spD K (["table", "draw"] : List Str).length (run N_place_given.length g_place_given))
  refine dl_ok (N := N_place_given) (ps := ["table", "draw"]) (k := 0) (b := g_place_given) T.F_place_given sc_place_given (by decide) ?_
  intro cdv A outer s H E hr gd
  exact ⟨_, dl_both (sss_cons (ss_asg (se_var 1) (sg_tup rfl (sgs_cons (sg_name 2 sc_place_given.nd rfl (Or.inl rfl)) (sgs_cons (sg_name 3 sc_place_given.nd rfl (Or.inl rfl)) (sgs_nil))))) (sss_cons (ss_par 4 5 rfl sc_place_given.nd rfl rfl (by decide) rfl rfl (sa_cons (se_mul (se_var 2) (se_callB prim_sum (cr_sum rfl) rfl T.n_sum (by decide +kernel) (sa_cons (se_var 0) (sa_nil)))) (sa_cons (se_int) (sa_nil))) rfl) (sss_cons (ss_for PassesOwn.never rfl (si_enum rfl T.n_enumerate (sa_cons (se_var 0) (sa_nil))) (sg_tup rfl (sgs_cons (sg_name 6 sc_place_given.nd rfl (Or.inl rfl)) (sgs_cons (sg_name 7 sc_place_given.nd rfl (Or.inl rfl)) (sgs_nil)))) (sss_cons (ss_augAdd 5 sc_place_given.nd rfl (Or.inl rfl) (se_var 7)) (sss_one (ss_if (st_cmp prim_cmp op_gt (nomark _) (se_mul (se_var 5) (se_var 3)) (se_var 4)) (sss_one (ss_ret (se_var 6))) (sss_nil))))) (sss_one (ss_ret (se_non))))))⟩
theorem ok_place_drawn (T : Tx K mg) : FnG P w K mg base CX0 5 T.f_place_drawn T.d_place_drawn ["table", "draw"] (spD K 2 m_place_drawn) := by
  show FnG P w K mg base CX0 (4 + 1) T.f_place_drawn T.d_place_drawn ["table", "draw"] (spD K (["table", "draw"] : List Str).length (run N_place_drawn.length g_place_drawn))
  refine dl_ok (N := N_place_drawn) (ps := ["table", "draw"]) (k := 4) (b := g_place_drawn) T.F_place_drawn sc_place_drawn (by decide) ?_
  intro cdv A outer s H E hr gd
  exact ⟨_, dl_both (sss_cons (ss_drop (se_call (modes := [false]) (more := []) (ok_check_table T) (hr.mono (by decide)) gd rfl T.g_check_table T.F_check_table.kp (T.b1_check_table) .nil (fun _ _ => .nil) rfl (sa_cons (se_var 0) (sa_nil)))) (sss_cons (ss_drop (se_call (modes := [false]) (more := []) (ok_check_draw T) (hr.mono (by decide)) gd rfl T.g_check_draw T.F_check_draw.kp (T.b1_check_draw) .nil (fun _ _ => .nil) rfl (sa_cons (se_var 1) (sa_nil)))) (sss_one (ss_ret (se_call (modes := [false, false]) (more := []) (ok_place_given T) (hr.mono (by decide)) gd rfl T.g_place_given T.F_place_given.kp (T.b2_place_given) .nil (fun _ _ => .nil) rfl (sa_cons (se_var 0) (sa_cons (se_var 1) (sa_nil))))))))⟩
theorem ok_shortest_draw (T : Tx K mg) : FnG P w K mg base CX0 4 T.f_shortest_draw T.d_shortest_draw ["low", "high"] (spD K 2 m_shortest_draw) := by
  show FnG P w K mg base CX0 (3 + 1) T.f_shortest_draw T.d_shortest_draw ["low", "high"] (spD K (["low", "high"] : List Str).length (run N_shortest_draw.length g_shortest_draw))
  refine dl_ok (N := N_shortest_draw) (ps := ["low", "high"]) (k := 3) (b := g_shortest_draw) T.F_shortest_draw sc_shortest_draw (by decide) ?_
  intro cdv A outer s H E hr gd
  exact ⟨_, dl_both (sss_cons (ss_for PassesOwn.never rfl (si_seq (se_tup (sa_cons (se_var 0) (sa_cons (se_var 1) (sa_nil))))) (sg_name 2 sc_shortest_draw.nd rfl (Or.inl rfl)) (sss_one (ss_if (st_w (sw_or (st_not (st_val (se_call (modes := [false]) (more := []) (ok_is_odds T) (hr.mono (by decide)) gd rfl T.g_is_odds T.F_is_odds.kp (T.b1_is_odds) .nil (fun _ _ => .nil) rfl (sa_cons (se_var 2) (sa_nil))))) (sw_or1 (st_cmp prim_cmp op_gt (nomark _) (se_ix (se_var 2) (se_int)) (se_ix (se_var 2) (se_int)))))) (sss_never) (sss_nil)))) (sss_cons (ss_if (st_cmp prim_cmp op_ge (nomark _) (se_mul (se_ix (se_var 0) (se_int)) (se_ix (se_var 1) (se_int))) (se_mul (se_ix (se_var 1) (se_int)) (se_ix (se_var 0) (se_int)))) (sss_never) (sss_nil)) (sss_cons (ss_set 3 sc_shortest_draw.nd rfl (Or.inl rfl) (se_int)) (sss_one (ss_while PassesOwn.never (st_val (se_bl)) (sss_cons (ss_set 4 sc_shortest_draw.nd rfl (Or.inl rfl) (se_sub (se_int) (se_div (se_sub (se_int) (se_mul (se_ix (se_var 0) (se_int)) (se_var 3))) (se_ix (se_var 0) (se_int))))) (sss_cons (ss_if (st_cmp prim_cmp op_lt (nomark _) (se_mul (se_var 4) (se_ix (se_var 1) (se_int))) (se_mul (se_ix (se_var 1) (se_int)) (se_var 3))) (sss_one (ss_ret (se_call (modes := [false, false]) (more := []) (ok_odds_of T) (hr.mono (by decide)) gd rfl T.g_odds_of T.F_odds_of.kp (T.b2_odds_of) .nil (fun _ _ => .nil) rfl (sa_cons (se_var 4) (sa_cons (se_var 3) (sa_nil)))))) (sss_nil)) (sss_one (ss_set 3 sc_shortest_draw.nd rfl (Or.inl rfl) (se_mul (se_var 3) (se_int)))))))))))⟩
theorem ok_ends_in (T : Tx K mg) : FnG P w K mg base CX0 1 T.f_ends_in T.d_ends_in ["table", "times"] (spD K 2 m_ends_in) := by
  show FnG P w K mg base CX0 (0 + 1) T.f_ends_in T.d_ends_in ["table", "times"] (spD K (["table", "times"] : List Str).length (run N_ends_in.length g_ends_in))
  refine dl_ok (N := N_ends_in) (ps := ["table", "times"]) (k := 0) (b := g_ends_in) T.F_ends_in sc_ends_in (by decide) ?_
  intro cdv A outer s H E hr gd
  exact ⟨_, dl_both (sss_cons (ss_parS2 2 3 rfl sc_ends_in.nd rfl rfl (by decide) rfl rfl (se_lst (sa_nil)) (sa_cons (se_int) (sa_nil)) rfl) (sss_cons (ss_for PassesOwn.never rfl (si_enum rfl T.n_enumerate (sa_cons (se_var 0) (sa_nil))) (sg_tup rfl (sgs_cons (sg_name 4 sc_ends_in.nd rfl (Or.inl rfl)) (sgs_cons (sg_name 5 sc_ends_in.nd rfl (Or.inl rfl)) (sgs_nil)))) (sss_cons (ss_if (st_cmp prim_cmp op_gt (nomark _) (se_var 5) (se_int)) (sss_one (ss_append 2 (fun h => pe_bm PySem.F.plainAttrs_list PySem.F.slot_list_append PySem.F.type_list_append mt_append (pv 2) (pa_cons h pa_nil)) (se_tup (sa_cons (se_var 4) (sa_cons (se_mul (se_var 3) (se_var 1)) (sa_cons (se_mul (se_add (se_var 3) (se_var 5)) (se_var 1)) (sa_nil))))))) (sss_nil)) (sss_one (ss_augAdd 3 sc_ends_in.nd rfl (Or.inl rfl) (se_var 5))))) (sss_one (ss_ret (se_var 2)))))⟩
theorem ok_shared_spans (T : Tx K mg) : FnG P w K mg base CX0 2 T.f_shared_spans T.d_shared_spans ["one", "other"] (spD K 2 m_shared_spans) := by
  show FnG P w K mg base CX0 (1 + 1) T.f_shared_spans T.d_shared_spans ["one", "other"] (spD K (["one", "other"] : List Str).length (run N_shared_spans.length g_shared_spans))
  refine dl_ok (N := N_shared_spans) (ps := ["one", "other"]) (k := 1) (b := g_shared_spans) T.F_shared_spans sc_shared_spans (by decide) ?_
  intro cdv A outer s H E hr gd
  exact ⟨_, dl_both (sss_cons (ss_par 2 3 rfl sc_shared_spans.nd rfl rfl (by decide) rfl rfl (sa_cons (se_call (modes := [false, false]) (more := []) (ok_ends_in T) (hr.mono (by decide)) gd rfl T.g_ends_in T.F_ends_in.kp (T.b2_ends_in) .nil (fun _ _ => .nil) rfl (sa_cons (se_var 0) (sa_cons (se_callB prim_sum (cr_sum rfl) rfl T.n_sum (by decide +kernel) (sa_cons (se_var 1) (sa_nil))) (sa_nil)))) (sa_cons (se_call (modes := [false, false]) (more := []) (ok_ends_in T) (hr.mono (by decide)) gd rfl T.g_ends_in T.F_ends_in.kp (T.b2_ends_in) .nil (fun _ _ => .nil) rfl (sa_cons (se_var 1) (sa_cons (se_callB prim_sum (cr_sum rfl) rfl T.n_sum (by decide +kernel) (sa_cons (se_var 0) (sa_nil))) (sa_nil)))) (sa_nil))) rfl) (sss_cons (ss_parS3 4 5 6 rfl sc_shared_spans.nd rfl rfl rfl (by decide) (by decide) (by decide) rfl rfl rfl (se_lst (sa_nil)) (sa_cons (se_int) (sa_cons (se_int) (sa_nil))) rfl) (sss_cons (ss_while PassesOwn.never (st_w (sw_and (st_cmp prim_cmp op_lt (nomark _) (se_var 5) (se_callB prim_len call_lenD' rfl T.n_len (by decide +kernel) (sa_cons (se_var 2) (sa_nil)))) (sw_and1 (st_cmp prim_cmp op_lt (nomark _) (se_var 6) (se_callB prim_len call_lenD' rfl T.n_len (by decide +kernel) (sa_cons (se_var 3) (sa_nil))))))) (sss_cons (ss_par 7 8 rfl sc_shared_spans.nd rfl rfl (by decide) rfl rfl (sa_cons (se_callB prim_max2 (call_maxI rfl) rfl T.n_max (by decide +kernel) (sa_cons (se_ix (se_ix (se_var 2) (se_var 5)) (se_int)) (sa_cons (se_ix (se_ix (se_var 3) (se_var 6)) (se_int)) (sa_nil)))) (sa_cons (se_callB prim_min2 (call_minI rfl) rfl T.n_min (by decide +kernel) (sa_cons (se_ix (se_ix (se_var 2) (se_var 5)) (se_int)) (sa_cons (se_ix (se_ix (se_var 3) (se_var 6)) (se_int)) (sa_nil)))) (sa_nil))) rfl) (sss_cons (ss_append 4 (fun h => pe_bm PySem.F.plainAttrs_list PySem.F.slot_list_append PySem.F.type_list_append mt_append (pv 4) (pa_cons h pa_nil)) (se_tup (sa_cons (se_var 7) (sa_cons (se_var 8) (sa_cons (se_ix (se_ix (se_var 2) (se_var 5)) (se_int)) (sa_cons (se_ix (se_ix (se_var 3) (se_var 6)) (se_int)) (sa_nil))))))) (sss_cons (ss_set 9 sc_shared_spans.nd rfl (Or.inl rfl) (se_tup (sa_cons (se_cmp prim_eq (op_eqP hr.units) (nomark _) (se_ix (se_ix (se_var 2) (se_var 5)) (se_int)) (se_var 8)) (sa_cons (se_cmp prim_eq (op_eqP hr.units) (nomark _) (se_ix (se_ix (se_var 3) (se_var 6)) (se_int)) (se_var 8)) (sa_nil))))) (sss_cons (ss_augAdd 5 sc_shared_spans.nd rfl (Or.inl rfl) (se_callTy prim_int call_int1 rfl T.n_int (by decide +kernel) (sa_cons (se_ix (se_var 9) (se_int)) (sa_nil)))) (sss_one (ss_augAdd 6 sc_shared_spans.nd rfl (Or.inl rfl) (se_callTy prim_int call_int1 rfl T.n_int (by decide +kernel) (sa_cons (se_ix (se_var 9) (se_int)) (sa_nil)))))))))) (sss_one (ss_ret (se_var 4))))))⟩
theorem ok_check_tables (T : Tx K mg) : FnG P w K mg base CX0 5 T.f_check_tables T.d_check_tables ["one", "other"] (spD K 2 m_check_tables) := by
  show FnG P w K mg base CX0 (4 + 1) T.f_check_tables T.d_check_tables ["one", "other"] (spD K (["one", "other"] : List Str).length (run N_check_tables.length g_check_tables))
  refine dl_ok (N := N_check_tables) (ps := ["one", "other"]) (k := 4) (b := g_check_tables) T.F_check_tables sc_check_tables (by decide) ?_
  intro cdv A outer s H E hr gd
  exact ⟨_, dl_both (sss_cons (ss_drop (se_call (modes := [false]) (more := []) (ok_check_table T) (hr.mono (by decide)) gd rfl T.g_check_table T.F_check_table.kp (T.b1_check_table) .nil (fun _ _ => .nil) rfl (sa_cons (se_var 0) (sa_nil)))) (sss_one (ss_if (st_w (sw_or (st_not (st_val (se_call (modes := [false]) (more := []) (ok_is_table T) (hr.mono (by decide)) gd rfl T.g_is_table T.F_is_table.kp (T.b1_is_table) .nil (fun _ _ => .nil) rfl (sa_cons (se_var 1) (sa_nil))))) (sw_or1 (st_cmp prim_ne (op_neP hr.units) (nomark _) (se_callB prim_len call_lenD' rfl T.n_len (by decide +kernel) (sa_cons (se_var 1) (sa_nil))) (se_callB prim_len call_lenD' rfl T.n_len (by decide +kernel) (sa_cons (se_var 0) (sa_nil))))))) (sss_never) (sss_nil))))⟩
theorem ok_alike_given (T : Tx K mg) : FnG P w K mg base CX0 6 T.f_alike_given T.d_alike_given ["one", "other"] (spD K 2 m_alike_given) := by
  show FnG P w K mg base CX0 (5 + 1) T.f_alike_given T.d_alike_given ["one", "other"] (spD K (["one", "other"] : List Str).length (run N_alike_given.length g_alike_given))
  refine dl_ok (N := N_alike_given) (ps := ["one", "other"]) (k := 5) (b := g_alike_given) T.F_alike_given sc_alike_given (by decide) ?_
  intro cdv A outer s H E hr gd
  exact ⟨_, dl_both (sss_cons (ss_drop (se_call (modes := [false, false]) (more := []) (ok_check_tables T) (hr.mono (by decide)) gd rfl T.g_check_tables T.F_check_tables.kp (T.b2_check_tables) .nil (fun _ _ => .nil) rfl (sa_cons (se_var 0) (sa_cons (se_var 1) (sa_nil))))) (sss_cons (ss_setLc 2 rfl sc_alike_given.nd rfl rfl (sw_true rfl rfl rfl (by decide +kernel)) (si_seq (se_call (modes := [false, false]) (more := []) (ok_shared_spans T) (hr.mono (by decide)) gd rfl T.g_shared_spans T.F_shared_spans.kp (T.b2_shared_spans) .nil (fun _ _ => .nil) rfl (sa_cons (se_var 0) (sa_cons (se_var 1) (sa_nil))))) (blkOk_by (own := [("low", 3), ("high", 4), ("place", 5), ("beside", 6)]) (N := N_alike_given) (sc := defScope s_alike_given) (by decide +kernel)) (fun _ _ _ _ _ => sg_tup rfl (sgs_cons (sg_name 3 sc_alike_given.nd rfl (Or.inl rfl)) (sgs_cons (sg_name 4 sc_alike_given.nd rfl (Or.inl rfl)) (sgs_cons (sg_name 5 sc_alike_given.nd rfl (Or.inl rfl)) (sgs_cons (sg_name 6 sc_alike_given.nd rfl (Or.inl rfl)) (sgs_nil)))))) (fun _ _ _ _ _ => sts_one (st_cmp prim_eq (op_eqP hr.units) (nomark _) (se_var 5) (se_var 6))) (fun _ _ _ _ _ => se_sub (se_var 4) (se_var 3)) rfl (by decide)) (sss_one (ss_ret (se_call (modes := [false, false]) (more := []) (ok_odds_of T) (hr.mono (by decide)) gd rfl T.g_odds_of T.F_odds_of.kp (T.b2_odds_of) .nil (fun _ _ => .nil) rfl (sa_cons (se_callB prim_sum (cr_sum rfl) rfl T.n_sum (by decide +kernel) (sa_cons (se_var 2) (sa_nil))) (sa_cons (se_mul (se_callB prim_sum (cr_sum rfl) rfl T.n_sum (by decide +kernel) (sa_cons (se_var 0) (sa_nil))) (se_callB prim_sum (cr_sum rfl) rfl T.n_sum (by decide +kernel) (sa_cons (se_var 1) (sa_nil)))) (sa_nil))))))))⟩
theorem ok_parted_spans (T : Tx K mg) : FnG P w K mg base CX0 6 T.f_parted_spans T.d_parted_spans ["one", "other"] (spD K 2 m_parted_spans) := by
  show FnG P w K mg base CX0 (5 + 1) T.f_parted_spans T.d_parted_spans ["one", "other"] (spD K (["one", "other"] : List Str).length (run N_parted_spans.length g_parted_spans))
  refine dl_ok (N := N_parted_spans) (ps := ["one", "other"]) (k := 5) (b := g_parted_spans) T.F_parted_spans sc_parted_spans (by decide) ?_
  intro cdv A outer s H E hr gd
  exact ⟨_, dl_both (sss_cons (ss_drop (se_call (modes := [false, false]) (more := []) (ok_check_tables T) (hr.mono (by decide)) gd rfl T.g_check_tables T.F_check_tables.kp (T.b2_check_tables) .nil (fun _ _ => .nil) rfl (sa_cons (se_var 0) (sa_cons (se_var 1) (sa_nil))))) (sss_cons (ss_parQ2 2 3 rfl sc_parted_spans.nd rfl rfl (by decide) rfl rfl (se_mul (se_callB prim_sum (cr_sum rfl) rfl T.n_sum (by decide +kernel) (sa_cons (se_var 0) (sa_nil))) (se_callB prim_sum (cr_sum rfl) rfl T.n_sum (by decide +kernel) (sa_cons (se_var 1) (sa_nil)))) (se_lst (sa_nil)) rfl) (sss_cons (ss_for PassesOwn.never rfl (si_seq (se_call (modes := [false, false]) (more := []) (ok_shared_spans T) (hr.mono (by decide)) gd rfl T.g_shared_spans T.F_shared_spans.kp (T.b2_shared_spans) .nil (fun _ _ => .nil) rfl (sa_cons (se_var 0) (sa_cons (se_var 1) (sa_nil))))) (sg_tup rfl (sgs_cons (sg_name 4 sc_parted_spans.nd rfl (Or.inl rfl)) (sgs_cons (sg_name 5 sc_parted_spans.nd rfl (Or.inl rfl)) (sgs_cons (sg_name 6 sc_parted_spans.nd rfl (Or.inl rfl)) (sgs_cons (sg_name 7 sc_parted_spans.nd rfl (Or.inl rfl)) (sgs_nil)))))) (sss_one (ss_if (st_cmp prim_ne (op_neP hr.units) (nomark _) (se_var 6) (se_var 7)) (sss_one (ss_append 3 (fun h => pe_bm PySem.F.plainAttrs_list PySem.F.slot_list_append PySem.F.type_list_append mt_append (pv 3) (pa_cons h pa_nil)) (se_tup (sa_cons (se_call (modes := [false, false]) (more := []) (ok_odds_of T) (hr.mono (by decide)) gd rfl T.g_odds_of T.F_odds_of.kp (T.b2_odds_of) .nil (fun _ _ => .nil) rfl (sa_cons (se_var 4) (sa_cons (se_var 2) (sa_nil)))) (sa_cons (se_call (modes := [false, false]) (more := []) (ok_odds_of T) (hr.mono (by decide)) gd rfl T.g_odds_of T.F_odds_of.kp (T.b2_odds_of) .nil (fun _ _ => .nil) rfl (sa_cons (se_var 5) (sa_cons (se_var 2) (sa_nil)))) (sa_cons (se_var 6) (sa_cons (se_var 7) (sa_nil)))))))) (sss_nil)))) (sss_one (ss_ret (se_var 3))))))⟩
theorem ok__law_hash (T : Tx K mg) : FnG P w K mg base CX0 1 T.f__law_hash T.d__law_hash ["seed", "index"] (spD K 2 m__law_hash) := by
  show FnG P w K mg base CX0 (0 + 1) T.f__law_hash T.d__law_hash ["seed", "index"] (spD K (["seed", "index"] : List Str).length (run N__law_hash.length g__law_hash))
  refine dl_ok (N := N__law_hash) (ps := ["seed", "index"]) (k := 0) (b := g__law_hash) T.F__law_hash sc__law_hash (by decide) ?_
  intro cdv A outer s H E hr gd
  exact ⟨_, dl_both (sss_cons (ss_set 2 sc__law_hash.nd rfl (Or.inl rfl) (se_mod (se_callTy prim_int call_int1 rfl T.n_int (by decide +kernel) (sa_cons (se_add (se_add (se_add (se_mul (se_var 0) (se_int)) (se_mul (se_mul (se_int) (se_var 1)) (se_var 1))) (se_mul (se_int) (se_var 1))) (se_int)) (sa_nil))) (se_int))) (sss_cons (ss_set 2 sc__law_hash.nd rfl (Or.inl rfl) (se_mod (se_callTy prim_int call_int1 rfl T.n_int (by decide +kernel) (sa_cons (se_add (se_add (se_mul (se_var 2) (se_var 2)) (se_mul (se_int) (se_var 1))) (se_int)) (sa_nil))) (se_int))) (sss_one (ss_ret (se_mod (se_callTy prim_int call_int1 rfl T.n_int (by decide +kernel) (sa_cons (se_mul (se_var 2) (se_int)) (sa_nil))) (se_int))))))⟩
theorem ok__law_random (T : Tx K mg) : FnG P w K mg base CX0 2 T.f__law_random T.d__law_random ["generator", "bound"] (spD K 2 m__law_random) := by
  show FnG P w K mg base CX0 (1 + 1) T.f__law_random T.d__law_random ["generator", "bound"] (spD K (["generator", "bound"] : List Str).length (run N__law_random.length g__law_random))
  refine dl_ok (N := N__law_random) (ps := ["generator", "bound"]) (k := 1) (b := g__law_random) T.F__law_random sc__law_random (by decide) ?_
  intro cdv A outer s H E hr gd
  exact ⟨_, dl_both (sss_cons (ss_if (st_cmp prim_cmp op_gt (nomark _) (se_ix (se_var 0) (se_int)) (se_int)) (sss_cons (ss_set 2 sc__law_random.nd rfl (Or.inl rfl) (se_mod (se_callTy prim_int call_int1 rfl T.n_int (by decide +kernel) (sa_cons (se_ix (se_var 0) (se_int)) (sa_nil))) (se_var 1))) (sss_cons (ss_setIx 0 (pv 0) (se_int) (se_div (se_ix (se_var 0) (se_int)) (se_var 1))) (sss_one (ss_ret (se_var 2))))) (sss_nil)) (sss_cons (ss_set 2 sc__law_random.nd rfl (Or.inl rfl) (se_int)) (sss_cons (ss_for PassesOwn.never rfl (si_range1 rfl T.n_range (sa_cons (se_add (se_int) (se_div (se_bits (se_var 1)) (se_int))) (sa_nil))) (sg_name 3 sc__law_random.nd rfl (Or.inl rfl)) (sss_cons (ss_setIx 0 (pv 0) (se_int) (se_add (se_ix (se_var 0) (se_int)) (se_int))) (sss_one (ss_set 2 sc__law_random.nd rfl (Or.inl rfl) (se_add (se_mul (se_var 2) (se_int)) (se_call (modes := [false, false]) (more := []) (ok__law_hash T) (hr.mono (by decide)) gd rfl T.g__law_hash T.F__law_hash.kp (T.b2__law_hash) .nil (fun _ _ => .nil) rfl (sa_cons (se_ix (se_var 0) (se_int)) (sa_cons (se_ix (se_var 0) (se_int)) (sa_nil))))))))) (sss_one (ss_ret (se_mod (se_callTy prim_int call_int1 rfl T.n_int (by decide +kernel) (sa_cons (se_var 2) (sa_nil))) (se_var 1)))))))⟩
theorem ok__law_cell (T : Tx K mg) : FnG P w K mg base CX0 1 T.f__law_cell T.d__law_cell ["script", "index"] (spD K 2 m__law_cell) := by
  show FnG P w K mg base CX0 (0 + 1) T.f__law_cell T.d__law_cell ["script", "index"] (spD K (["script", "index"] : List Str).length (run N__law_cell.length g__law_cell))
  refine dl_ok (N := N__law_cell) (ps := ["script", "index"]) (k := 0) (b := g__law_cell) T.F__law_cell sc__law_cell (by decide) ?_
  intro cdv A outer s H E hr gd
  exact ⟨_, dl_both (sss_cons (ss_if (st_cmp prim_cmp op_lt (nomark _) (se_var 1) (se_callB prim_len call_lenD' rfl T.n_len (by decide +kernel) (sa_cons (se_var 0) (sa_nil)))) (sss_one (ss_ret (se_ix (se_var 0) (se_var 1)))) (sss_nil)) (sss_one (ss_ret (se_mod (se_callB prim_sum (cr_sum rfl) rfl T.n_sum (by decide +kernel) (sa_cons (se_slice (se_var 0) (so_none) (so_some (se_int))) (sa_nil))) (se_int)))))⟩
theorem ok__law_generator (T : Tx K mg) : FnG P w K mg base CX0 2 T.f__law_generator T.d__law_generator ["script", "index"] (spD K 2 m__law_generator) := by
  show FnG P w K mg base CX0 (1 + 1) T.f__law_generator T.d__law_generator ["script", "index"] (spD K (["script", "index"] : List Str).length (run N__law_generator.length g__law_generator))
  refine dl_ok (N := N__law_generator) (ps := ["script", "index"]) (k := 1) (b := g__law_generator) T.F__law_generator sc__law_generator (by decide) ?_
  intro cdv A outer s H E hr gd
  exact ⟨_, dl_both (sss_cons (ss_set 2 sc__law_generator.nd rfl (Or.inl rfl) (se_call (modes := [false, false]) (more := []) (ok__law_cell T) (hr.mono (by decide)) gd rfl T.g__law_cell T.F__law_cell.kp (T.b2__law_cell) .nil (fun _ _ => .nil) rfl (sa_cons (se_var 0) (sa_cons (se_var 1) (sa_nil))))) (sss_one (ss_ret (se_lst (sa_cons (se_mod (se_callTy prim_int call_int1 rfl T.n_int (by decide +kernel) (sa_cons (se_callB prim_max2 (call_maxI rfl) rfl T.n_max (by decide +kernel) (sa_cons (se_sub (se_var 2) (se_pow (se_int) (se_int))) (sa_cons (se_int) (sa_nil)))) (sa_nil))) (se_powW (se_pow (se_int) (se_int)) (se_int))) (sa_cons (se_mod (se_callTy prim_int call_int1 rfl T.n_int (by decide +kernel) (sa_cons (se_var 2) (sa_nil))) (se_int)) (sa_cons (se_mul (se_int) (se_var 1)) (sa_nil))))))))⟩
theorem ok__law_pick (T : Tx K mg) : FnG P w K mg base CX0 3 T.f__law_pick T.d__law_pick ["generator", "row"] (spD K 2 m__law_pick) := by
  show FnG P w K mg base CX0 (2 + 1) T.f__law_pick T.d__law_pick ["generator", "row"] (spD K (["generator", "row"] : List Str).length (run N__law_pick.length g__law_pick))
  refine dl_ok (N := N__law_pick) (ps := ["generator", "row"]) (k := 2) (b := g__law_pick) T.F__law_pick sc__law_pick (by decide) ?_
  intro cdv A outer s H E hr gd
  exact ⟨_, dl_both (sss_one (ss_ret (se_ix (se_var 1) (se_call (modes := [true, false]) (more := []) (ok__law_random T) (hr.mono (by decide)) gd rfl T.g__law_random T.F__law_random.kp (T.b2__law_random) .nil (fun _ _ => .nil) rfl (sa_cons (se_var 0) (sa_cons (se_callB prim_len call_lenD' rfl T.n_len (by decide +kernel) (sa_cons (se_var 1) (sa_nil))) (sa_nil)))))))⟩
theorem ok__law_same (T : Tx K mg) : ∀ n : Nat, FnG P w K mg base CX0 (0 + n) T.f__law_same T.d__law_same ["told", "due"] (spD K 2 (m__law_same n))
  | 0 => fnG_none rfl
  | n + 1 => by
    have ih := ok__law_same T n
    show FnG P w K mg base CX0 (0 + n + 1) T.f__law_same T.d__law_same ["told", "due"] (spD K (["told", "due"] : List Str).length (run N__law_same.length (g__law_same (m__law_same n))))
    refine dl_ok (N := N__law_same) (ps := ["told", "due"]) (k := 0 + n) (b := (g__law_same (m__law_same n))) T.F__law_same sc__law_same (by decide) ?_
    intro cdv A outer s H E hr gd
    exact ⟨_, dl_both (sss_cons (ss_if (st_w (sw_or (st_val (se_isi tyok_tuple rfl T.n_isinstance (by decide +kernel) rfl T.n_tuple (by decide +kernel) (se_var 1))) (sw_or1 (st_val (se_isi tyok_list rfl T.n_isinstance (by decide +kernel) rfl T.n_list (by decide +kernel) (se_var 1)))))) (sss_cons (ss_if (st_w (sw_or (st_cmp prim_ne (op_neP hr.units) (nomark _) (se_isi tyok_tuple rfl T.n_isinstance (by decide +kernel) rfl T.n_tuple (by decide +kernel) (se_var 0)) (se_isi tyok_tuple rfl T.n_isinstance (by decide +kernel) rfl T.n_tuple (by decide +kernel) (se_var 1))) (sw_or1 (st_cmp prim_ne (op_neP hr.units) (nomark _) (se_isi tyok_list rfl T.n_isinstance (by decide +kernel) rfl T.n_list (by decide +kernel) (se_var 0)) (se_isi tyok_list rfl T.n_isinstance (by decide +kernel) rfl T.n_list (by decide +kernel) (se_var 1)))))) (sss_one (ss_ret (se_bl))) (sss_nil)) (sss_one (ss_ret (se_and (se_cmp prim_eq (op_eqP hr.units) (nomark _) (se_callB prim_len call_lenD' rfl T.n_len (by decide +kernel) (sa_cons (se_var 0) (sa_nil))) (se_callB prim_len call_lenD' rfl T.n_len (by decide +kernel) (sa_cons (se_var 1) (sa_nil)))) (se_one (se_cmp prim_eq (op_eqP hr.units) (nomark _) (se_lc rfl sc__law_same.nd (si_range1 rfl T.n_range (sa_cons (se_callB prim_len call_lenD' rfl T.n_len (by decide +kernel) (sa_cons (se_var 1) (sa_nil))) (sa_nil))) (blkOk_by (own := [("at", 2)]) (N := N__law_same) (sc := defScope s__law_same) (by decide +kernel)) (fun _ _ _ _ _ => sg_name 2 sc__law_same.nd rfl (Or.inl rfl)) (fun _ _ _ _ _ => sts_one (st_not (st_val (se_call (modes := [false, false]) (more := []) ih (hr.mono (by omega)) gd rfl T.g__law_same T.F__law_same.kp (T.b2__law_same) .nil (fun _ _ => .nil) rfl (sa_cons (se_ix (se_var 0) (se_var 2)) (sa_cons (se_ix (se_var 1) (se_var 2)) (sa_nil))))))) (fun _ _ _ _ _ => se_var 2) rfl (by decide)) (se_lst (sa_nil)))))))) (sss_nil)) (sss_cons (ss_if (st_w (sw_or (st_val (se_isi tyok_bool rfl T.n_isinstance (by decide +kernel) rfl T.n_bool (by decide +kernel) (se_var 1))) (sw_or1 (st_val (se_isi tyok_bool rfl T.n_isinstance (by decide +kernel) rfl T.n_bool (by decide +kernel) (se_var 0)))))) (sss_one (ss_ret (se_if (st_cmp prim_is op_isC (nomark _) (se_var 1) (se_bl)) (se_cmp prim_is op_isC (nomark _) (se_var 0) (se_bl)) (se_if (st_cmp prim_is op_isC (nomark _) (se_var 1) (se_bl)) (se_cmp prim_is op_isC (nomark _) (se_var 0) (se_bl)) (se_bl))))) (sss_nil)) (sss_cons (ss_if (st_val (se_isi tyok_int rfl T.n_isinstance (by decide +kernel) rfl T.n_int (by decide +kernel) (se_var 1))) (sss_one (ss_ret (se_and (se_isi tyok_int rfl T.n_isinstance (by decide +kernel) rfl T.n_int (by decide +kernel) (se_var 0)) (se_one (se_cmp prim_eq (op_eqP hr.units) (nomark _) (se_var 0) (se_var 1)))))) (sss_nil)) (sss_cons (ss_if (st_val (se_isi tyok_str rfl T.n_isinstance (by decide +kernel) rfl T.n_str (by decide +kernel) (se_var 1))) (sss_one (ss_ret (se_and (se_isi tyok_str rfl T.n_isinstance (by decide +kernel) rfl T.n_str (by decide +kernel) (se_var 0)) (se_one (se_cmp prim_eq (op_eqP hr.units) (nomark _) (se_var 0) (se_var 1)))))) (sss_nil)) (sss_one (ss_ret (se_and (se_cmp prim_is op_isC (nomark _) (se_var 1) (se_non)) (se_one (se_cmp prim_is op_isC (nomark _) (se_var 0) (se_non))))))))))⟩
theorem ok__law_common (T : Tx K mg) : FnG P w K mg base CX0 1 T.f__law_common T.d__law_common ["one", "other"] (spD K 2 m__law_common) := by
  show FnG P w K mg base CX0 (0 + 1) T.f__law_common T.d__law_common ["one", "other"] (spD K (["one", "other"] : List Str).length (run N__law_common.length g__law_common))
  refine dl_ok (N := N__law_common) (ps := ["one", "other"]) (k := 0) (b := g__law_common) T.F__law_common sc__law_common (by decide) ?_
  intro cdv A outer s H E hr gd
  exact ⟨_, dl_both (sss_cons (ss_while PassesOwn.never (st_cmp prim_cmp op_gt (nomark _) (se_var 1) (se_int)) (sss_one (ss_par 0 1 rfl sc__law_common.nd rfl rfl (by decide) rfl rfl (sa_cons (se_var 1) (sa_cons (se_mod (se_var 0) (se_var 1)) (sa_nil))) rfl))) (sss_one (ss_ret (se_var 0))))⟩
theorem ok__law_odds (T : Tx K mg) : FnG P w K mg base CX0 2 T.f__law_odds T.d__law_odds ["top", "under"] (spD K 2 m__law_odds) := by
  show FnG P w K mg base CX0 (1 + 1) T.f__law_odds T.d__law_odds ["top", "under"] (spD K (["top", "under"] : List Str).length (run N__law_odds.length g__law_odds))
  refine dl_ok (N := N__law_odds) (ps := ["top", "under"]) (k := 1) (b := g__law_odds) T.F__law_odds sc__law_odds (by decide) ?_
  intro cdv A outer s H E hr gd
  exact ⟨_, dl_both (sss_cons (ss_set 2 sc__law_odds.nd rfl (Or.inl rfl) (se_call (modes := [false, false]) (more := []) (ok__law_common T) (hr.mono (by decide)) gd rfl T.g__law_common T.F__law_common.kp (T.b2__law_common) .nil (fun _ _ => .nil) rfl (sa_cons (se_var 0) (sa_cons (se_var 1) (sa_nil))))) (sss_one (ss_ret (se_tup (sa_cons (se_div (se_var 0) (se_var 2)) (sa_cons (se_div (se_var 1) (se_var 2)) (sa_nil)))))))⟩
theorem ok__law_sum (T : Tx K mg) : FnG P w K mg base CX0 3 T.f__law_sum T.d__law_sum ["some"] (spD K 1 m__law_sum) := by
  show FnG P w K mg base CX0 (2 + 1) T.f__law_sum T.d__law_sum ["some"] (spD K (["some"] : List Str).length (run N__law_sum.length g__law_sum))
  refine dl_ok (N := N__law_sum) (ps := ["some"]) (k := 2) (b := g__law_sum) T.F__law_sum sc__law_sum (by decide) ?_
  intro cdv A outer s H E hr gd
  exact ⟨_, dl_both (sss_cons (ss_asg (se_tup (sa_cons (se_int) (sa_cons (se_int) (sa_nil)))) (sg_tup rfl (sgs_cons (sg_name 1 sc__law_sum.nd rfl (Or.inl rfl)) (sgs_cons (sg_name 2 sc__law_sum.nd rfl (Or.inl rfl)) (sgs_nil))))) (sss_cons (ss_for PassesOwn.never rfl (si_seq (se_var 0)) (sg_name 3 sc__law_sum.nd rfl (Or.inl rfl)) (sss_one (ss_par 1 2 rfl sc__law_sum.nd rfl rfl (by decide) rfl rfl (sa_cons (se_add (se_mul (se_var 1) (se_ix (se_var 3) (se_int))) (se_mul (se_ix (se_var 3) (se_int)) (se_var 2))) (sa_cons (se_mul (se_var 2) (se_ix (se_var 3) (se_int))) (sa_nil))) rfl))) (sss_one (ss_ret (se_call (modes := [false, false]) (more := []) (ok__law_odds T) (hr.mono (by decide)) gd rfl T.g__law_odds T.F__law_odds.kp (T.b2__law_odds) .nil (fun _ _ => .nil) rfl (sa_cons (se_var 1) (sa_cons (se_var 2) (sa_nil))))))))⟩
theorem ok__law_less (T : Tx K mg) : FnG P w K mg base CX0 3 T.f__law_less T.d__law_less ["one", "other"] (spD K 2 m__law_less) := by
  show FnG P w K mg base CX0 (2 + 1) T.f__law_less T.d__law_less ["one", "other"] (spD K (["one", "other"] : List Str).length (run N__law_less.length g__law_less))
  refine dl_ok (N := N__law_less) (ps := ["one", "other"]) (k := 2) (b := g__law_less) T.F__law_less sc__law_less (by decide) ?_
  intro cdv A outer s H E hr gd
  exact ⟨_, dl_both (sss_one (ss_ret (se_call (modes := [false, false]) (more := []) (ok__law_odds T) (hr.mono (by decide)) gd rfl T.g__law_odds T.F__law_odds.kp (T.b2__law_odds) .nil (fun _ _ => .nil) rfl (sa_cons (se_sub (se_mul (se_ix (se_var 0) (se_int)) (se_ix (se_var 1) (se_int))) (se_mul (se_ix (se_var 1) (se_int)) (se_ix (se_var 0) (se_int)))) (sa_cons (se_mul (se_ix (se_var 0) (se_int)) (se_ix (se_var 1) (se_int))) (sa_nil))))))⟩
theorem ok__law_below (T : Tx K mg) : FnG P w K mg base CX0 1 T.f__law_below T.d__law_below ["one", "other"] (spD K 2 m__law_below) := by
  show FnG P w K mg base CX0 (0 + 1) T.f__law_below T.d__law_below ["one", "other"] (spD K (["one", "other"] : List Str).length (run N__law_below.length g__law_below))
  refine dl_ok (N := N__law_below) (ps := ["one", "other"]) (k := 0) (b := g__law_below) T.F__law_below sc__law_below (by decide) ?_
  intro cdv A outer s H E hr gd
  exact ⟨_, dl_both (sss_one (ss_ret (se_cmp prim_cmp op_lt (nomark _) (se_mul (se_ix (se_var 0) (se_int)) (se_ix (se_var 1) (se_int))) (se_mul (se_ix (se_var 1) (se_int)) (se_ix (se_var 0) (se_int))))))⟩
theorem ok__law_table (T : Tx K mg) : FnG P w K mg base CX0 4 T.f__law_table T.d__law_table ["generator", "places"] (spD K 2 m__law_table) := by
  show FnG P w K mg base CX0 (3 + 1) T.f__law_table T.d__law_table ["generator", "places"] (spD K (["generator", "places"] : List Str).length (run N__law_table.length g__law_table))
  refine dl_ok (N := N__law_table) (ps := ["generator", "places"]) (k := 3) (b := g__law_table) T.F__law_table sc__law_table (by decide) ?_
  intro cdv A outer s H E hr gd
  exact ⟨_, dl_both (sss_cons (ss_set 2 sc__law_table.nd rfl (Or.inr rfl) (se_call (modes := [true, false]) (more := []) (ok__law_pick T) (hr.mono (by decide)) gd rfl T.g__law_pick T.F__law_pick.kp (T.b2__law_pick) .nil (fun _ _ => .nil) rfl (sa_cons (se_var 0) (sa_cons (se_lst (sa_cons (se_int) (sa_cons (se_int) (sa_cons (se_int) (sa_cons (se_int) (sa_cons (se_int) (sa_cons (se_pow (se_int) (se_int)) (sa_nil)))))))) (sa_nil))))) (sss_cons (ss_setLc 3 rfl sc__law_table.nd rfl rfl (sw_true rfl rfl rfl (by decide +kernel)) (si_range1 rfl T.n_range (sa_cons (se_var 1) (sa_nil))) (blkOk_by (own := [("place", 4)]) (N := N__law_table) (sc := defScope s__law_table) (by decide +kernel)) (fun _ _ _ _ _ => sg_name 4 sc__law_table.nd rfl (Or.inl rfl)) (fun _ _ _ _ _ => sts_nil) (fun _ _ _ _ _ => se_call (modes := [true, false]) (more := []) (ok__law_random T) (hr.mono (by decide)) gd rfl T.g__law_random T.F__law_random.kp (T.b2__law_random) .nil (fun _ _ => .nil) rfl (sa_cons (se_var 0) (sa_cons (se_var 2) (sa_nil)))) rfl (by decide)) (sss_cons (ss_if (st_cmp prim_eq (op_eqP hr.units) (nomark _) (se_callB prim_maxL (cr_max rfl) rfl T.n_max (by decide +kernel) (sa_cons (se_var 3) (sa_nil))) (se_int)) (sss_one (ss_setIx 3 (pv 3) (se_call (modes := [true, false]) (more := []) (ok__law_random T) (hr.mono (by decide)) gd rfl T.g__law_random T.F__law_random.kp (T.b2__law_random) .nil (fun _ _ => .nil) rfl (sa_cons (se_var 0) (sa_cons (se_var 1) (sa_nil)))) (se_add (se_int) (se_call (modes := [true, false]) (more := []) (ok__law_random T) (hr.mono (by decide)) gd rfl T.g__law_random T.F__law_random.kp (T.b2__law_random) .nil (fun _ _ => .nil) rfl (sa_cons (se_var 0) (sa_cons (se_var 2) (sa_nil))))))) (sss_nil)) (sss_one (ss_ret (se_var 3))))))⟩
theorem ok__law_shortest (T : Tx K mg) : FnG P w K mg base CX0 3 T.f__law_shortest T.d__law_shortest ["low", "high"] (spD K 2 m__law_shortest) := by
  show FnG P w K mg base CX0 (2 + 1) T.f__law_shortest T.d__law_shortest ["low", "high"] (spD K (["low", "high"] : List Str).length (run N__law_shortest.length g__law_shortest))
  refine dl_ok (N := N__law_shortest) (ps := ["low", "high"]) (k := 2) (b := g__law_shortest) T.F__law_shortest sc__law_shortest (by decide) ?_
  intro cdv A outer s H E hr gd
  exact ⟨_, dl_both (sss_cons (ss_set 2 sc__law_shortest.nd rfl (Or.inl rfl) (se_int)) (sss_one (ss_while PassesOwn.never (st_val (se_bl)) (sss_cons (ss_set 3 sc__law_shortest.nd rfl (Or.inl rfl) (se_div (se_sub (se_add (se_mul (se_ix (se_var 0) (se_int)) (se_var 2)) (se_ix (se_var 0) (se_int))) (se_int)) (se_ix (se_var 0) (se_int)))) (sss_cons (ss_if (st_val (se_call (modes := [false, false]) (more := []) (ok__law_below T) (hr.mono (by decide)) gd rfl T.g__law_below T.F__law_below.kp (T.b2__law_below) .nil (fun _ _ => .nil) rfl (sa_cons (se_tup (sa_cons (se_var 3) (sa_cons (se_var 2) (sa_nil)))) (sa_cons (se_var 1) (sa_nil))))) (sss_one (ss_ret (se_tup (sa_cons (se_call (modes := [false, false]) (more := []) (ok__law_odds T) (hr.mono (by decide)) gd rfl T.g__law_odds T.F__law_odds.kp (T.b2__law_odds) .nil (fun _ _ => .nil) rfl (sa_cons (se_var 3) (sa_cons (se_var 2) (sa_nil)))) (sa_cons (se_var 2) (sa_nil)))))) (sss_nil)) (sss_one (ss_set 2 sc__law_shortest.nd rfl (Or.inl rfl) (se_mul (se_var 2) (se_int)))))))))⟩
theorem ok__law_power (T : Tx K mg) : FnG P w K mg base CX0 1 T.f__law_power T.d__law_power ["number"] (spD K 1 m__law_power) := by
  show FnG P w K mg base CX0 (0 + 1) T.f__law_power T.d__law_power ["number"] (spD K (["number"] : List Str).length (run N__law_power.length g__law_power))
  refine dl_ok (N := N__law_power) (ps := ["number"]) (k := 0) (b := g__law_power) T.F__law_power sc__law_power (by decide) ?_
  intro cdv A outer s H E hr gd
  exact ⟨_, dl_both (sss_cons (ss_set 1 sc__law_power.nd rfl (Or.inl rfl) (se_int)) (sss_cons (ss_for PassesOwn.never rfl (si_range1 rfl T.n_range (sa_cons (se_var 0) (sa_nil))) (sg_name 2 sc__law_power.nd rfl (Or.inl rfl)) (sss_one (ss_set 1 sc__law_power.nd rfl (Or.inl rfl) (se_mul (se_var 1) (se_int))))) (sss_one (ss_ret (se_var 1)))))⟩
theorem ok__law_drawn_span (T : Tx K mg) : FnG P w K mg base CX0 4 T.f__law_drawn_span T.d__law_drawn_span ["generator"] (spD K 1 m__law_drawn_span) := by
  show FnG P w K mg base CX0 (3 + 1) T.f__law_drawn_span T.d__law_drawn_span ["generator"] (spD K (["generator"] : List Str).length (run N__law_drawn_span.length g__law_drawn_span))
  refine dl_ok (N := N__law_drawn_span) (ps := ["generator"]) (k := 3) (b := g__law_drawn_span) T.F__law_drawn_span sc__law_drawn_span (by decide) ?_
  intro cdv A outer s H E hr gd
  exact ⟨_, dl_both (sss_cons (ss_set 1 sc__law_drawn_span.nd rfl (Or.inl rfl) (se_call (modes := [true, false]) (more := []) (ok__law_random T) (hr.mono (by decide)) gd rfl T.g__law_random T.F__law_random.kp (T.b2__law_random) .nil (fun _ _ => .nil) rfl (sa_cons (se_var 0) (sa_cons (se_int) (sa_nil))))) (sss_cons (ss_if (st_cmp prim_eq (op_eqP hr.units) (nomark _) (se_var 1) (se_int)) (sss_cons (ss_set 2 sc__law_drawn_span.nd rfl (Or.inl rfl) (se_call (modes := [true, false]) (more := []) (ok__law_random T) (hr.mono (by decide)) gd rfl T.g__law_random T.F__law_random.kp (T.b2__law_random) .nil (fun _ _ => .nil) rfl (sa_cons (se_var 0) (sa_cons (se_pow (se_int) (se_int)) (sa_nil))))) (sss_one (ss_ret (se_tup (sa_cons (se_tup (sa_cons (se_var 2) (sa_cons (se_add (se_var 2) (se_int)) (sa_nil)))) (sa_cons (se_tup (sa_cons (se_add (se_var 2) (se_int)) (sa_cons (se_add (se_var 2) (se_int)) (sa_nil)))) (sa_nil))))))) (sss_nil)) (sss_cons (ss_if (st_cmp prim_eq (op_eqP hr.units) (nomark _) (se_var 1) (se_int)) (sss_one (ss_ret (se_ix (se_lst (sa_cons (se_tup (sa_cons (se_tup (sa_cons (se_int) (sa_cons (se_int) (sa_nil)))) (sa_cons (se_tup (sa_cons (se_int) (sa_cons (se_int) (sa_nil)))) (sa_nil)))) (sa_cons (se_tup (sa_cons (se_tup (sa_cons (se_int) (sa_cons (se_int) (sa_nil)))) (sa_cons (se_tup (sa_cons (se_int) (sa_cons (se_int) (sa_nil)))) (sa_nil)))) (sa_cons (se_tup (sa_cons (se_tup (sa_cons (se_int) (sa_cons (se_int) (sa_nil)))) (sa_cons (se_tup (sa_cons (se_int) (sa_cons (se_int) (sa_nil)))) (sa_nil)))) (sa_cons (se_tup (sa_cons (se_tup (sa_cons (se_int) (sa_cons (se_int) (sa_nil)))) (sa_cons (se_tup (sa_cons (se_int) (sa_cons (se_int) (sa_nil)))) (sa_nil)))) (sa_cons (se_tup (sa_cons (se_tup (sa_cons (se_int) (sa_cons (se_int) (sa_nil)))) (sa_cons (se_tup (sa_cons (se_int) (sa_cons (se_int) (sa_nil)))) (sa_nil)))) (sa_cons (se_tup (sa_cons (se_tup (sa_cons (se_int) (sa_cons (se_int) (sa_nil)))) (sa_cons (se_tup (sa_cons (se_int) (sa_cons (se_int) (sa_nil)))) (sa_nil)))) (sa_nil)))))))) (se_call (modes := [true, false]) (more := []) (ok__law_random T) (hr.mono (by decide)) gd rfl T.g__law_random T.F__law_random.kp (T.b2__law_random) .nil (fun _ _ => .nil) rfl (sa_cons (se_var 0) (sa_cons (se_int) (sa_nil))))))) (sss_nil)) (sss_cons (ss_set 3 sc__law_drawn_span.nd rfl (Or.inl rfl) (se_call (modes := [true, false]) (more := []) (ok__law_pick T) (hr.mono (by decide)) gd rfl T.g__law_pick T.F__law_pick.kp (T.b2__law_pick) .nil (fun _ _ => .nil) rfl (sa_cons (se_var 0) (sa_cons (se_lst (sa_cons (se_int) (sa_cons (se_int) (sa_cons (se_int) (sa_cons (se_pow (se_int) (se_int)) (sa_cons (se_call (modes := [false]) (more := []) (ok__law_power T) (hr.mono (by decide)) gd rfl T.g__law_power T.F__law_power.kp (T.b1__law_power) .nil (fun _ _ => .nil) rfl (sa_cons (se_add (se_int) (se_call (modes := [true, false]) (more := []) (ok__law_random T) (hr.mono (by decide)) gd rfl T.g__law_random T.F__law_random.kp (T.b2__law_random) .nil (fun _ _ => .nil) rfl (sa_cons (se_var 0) (sa_cons (se_int) (sa_nil))))) (sa_nil))) (sa_nil))))))) (sa_nil))))) (sss_cons (ss_set 4 sc__law_drawn_span.nd rfl (Or.inl rfl) (se_call (modes := [true, false]) (more := []) (ok__law_random T) (hr.mono (by decide)) gd rfl T.g__law_random T.F__law_random.kp (T.b2__law_random) .nil (fun _ _ => .nil) rfl (sa_cons (se_var 0) (sa_cons (se_var 3) (sa_nil))))) (sss_cons (ss_set 5 sc__law_drawn_span.nd rfl (Or.inl rfl) (se_callB prim_min2 (call_minI rfl) rfl T.n_min (by decide +kernel) (sa_cons (se_var 3) (sa_cons (se_add (se_add (se_var 4) (se_int)) (se_call (modes := [true, false]) (more := []) (ok__law_random T) (hr.mono (by decide)) gd rfl T.g__law_random T.F__law_random.kp (T.b2__law_random) .nil (fun _ _ => .nil) rfl (sa_cons (se_var 0) (sa_cons (se_call (modes := [true, false]) (more := []) (ok__law_pick T) (hr.mono (by decide)) gd rfl T.g__law_pick T.F__law_pick.kp (T.b2__law_pick) .nil (fun _ _ => .nil) rfl (sa_cons (se_var 0) (sa_cons (se_lst (sa_cons (se_int) (sa_cons (se_int) (sa_cons (se_int) (sa_cons (se_var 3) (sa_nil)))))) (sa_nil)))) (sa_nil))))) (sa_nil))))) (sss_one (ss_ret (se_tup (sa_cons (se_call (modes := [false, false]) (more := []) (ok__law_odds T) (hr.mono (by decide)) gd rfl T.g__law_odds T.F__law_odds.kp (T.b2__law_odds) .nil (fun _ _ => .nil) rfl (sa_cons (se_var 4) (sa_cons (se_var 3) (sa_nil)))) (sa_cons (se_call (modes := [false, false]) (more := []) (ok__law_odds T) (hr.mono (by decide)) gd rfl T.g__law_odds T.F__law_odds.kp (T.b2__law_odds) .nil (fun _ _ => .nil) rfl (sa_cons (se_var 5) (sa_cons (se_var 3) (sa_nil)))) (sa_nil))))))))))))⟩
theorem ok__law_short_right (T : Tx K mg) : FnG P w K mg base CX0 9 T.f__law_short_right T.d__law_short_right ["generator"] (spD K 1 m__law_short_right) := by
  show FnG P w K mg base CX0 (8 + 1) T.f__law_short_right T.d__law_short_right ["generator"] (spD K (["generator"] : List Str).length (run N__law_short_right.length g__law_short_right))
  refine dl_ok (N := N__law_short_right) (ps := ["generator"]) (k := 8) (b := g__law_short_right) T.F__law_short_right sc__law_short_right (by decide) ?_
  intro cdv A outer s H E hr gd
  exact ⟨_, dl_both (sss_cons (ss_asg (se_call (modes := [true]) (more := []) (ok__law_drawn_span T) (hr.mono (by decide)) gd rfl T.g__law_drawn_span T.F__law_drawn_span.kp (T.b1__law_drawn_span) .nil (fun _ _ => .nil) rfl (sa_cons (se_var 0) (sa_nil))) (sg_tup rfl (sgs_cons (sg_name 1 sc__law_short_right.nd rfl (Or.inl rfl)) (sgs_cons (sg_name 2 sc__law_short_right.nd rfl (Or.inl rfl)) (sgs_nil))))) (sss_cons (ss_asg (se_call (modes := [false, false]) (more := []) (ok__law_shortest T) (hr.mono (by decide)) gd rfl T.g__law_shortest T.F__law_shortest.kp (T.b2__law_shortest) .nil (fun _ _ => .nil) rfl (sa_cons (se_var 1) (sa_cons (se_var 2) (sa_nil)))) (sg_tup rfl (sgs_cons (sg_name 3 sc__law_short_right.nd rfl (Or.inl rfl)) (sgs_cons (sg_name 4 sc__law_short_right.nd rfl (Or.inl rfl)) (sgs_nil))))) (sss_cons (ss_set 5 sc__law_short_right.nd rfl (Or.inl rfl) (se_call (modes := [false, false]) (more := []) (ok_shortest_draw T) (hr.mono (by decide)) gd rfl T.g_shortest_draw T.F_shortest_draw.kp (T.b2_shortest_draw) .nil (fun _ _ => .nil) rfl (sa_cons (se_var 1) (sa_cons (se_var 2) (sa_nil))))) (sss_cons (ss_if (st_w (sw_or (st_not (st_val (se_call (modes := [false, false]) (more := []) (ok__law_same T 8) (hr.mono (by decide)) gd rfl T.g__law_same T.F__law_same.kp (T.b2__law_same) .nil (fun _ _ => .nil) rfl (sa_cons (se_var 5) (sa_cons (se_var 3) (sa_nil)))))) (sw_or1 (st_not (st_val (se_call (modes := [false, false]) (more := []) (ok__law_same T 8) (hr.mono (by decide)) gd rfl T.g__law_same T.F__law_same.kp (T.b2__law_same) .nil (fun _ _ => .nil) rfl (sa_cons (se_callP0 (more := []) (ok_shortest_draw T) (hr.mono (by decide)) gd rfl T.g_shortest_draw T.F_shortest_draw.kp T.k0_high_low_shortest_draw .nil (fun _ _ => .nil) rfl rfl (sk_cons (se_var 2) (sk_cons (se_var 1) (sk_nil)))) (sa_cons (se_var 3) (sa_nil))))))))) (sss_one (ss_ret (se_bl))) (sss_nil)) (sss_cons (ss_if (st_w (sw_or (st_val (se_call (modes := [false, false]) (more := []) (ok__law_below T) (hr.mono (by decide)) gd rfl T.g__law_below T.F__law_below.kp (T.b2__law_below) .nil (fun _ _ => .nil) rfl (sa_cons (se_var 5) (sa_cons (se_var 1) (sa_nil))))) (sw_or1 (st_not (st_val (se_call (modes := [false, false]) (more := []) (ok__law_below T) (hr.mono (by decide)) gd rfl T.g__law_below T.F__law_below.kp (T.b2__law_below) .nil (fun _ _ => .nil) rfl (sa_cons (se_var 5) (sa_cons (se_var 2) (sa_nil))))))))) (sss_one (ss_ret (se_bl))) (sss_nil)) (sss_one (ss_ret (se_and (se_call (modes := [false, false]) (more := []) (ok__law_below T) (hr.mono (by decide)) gd rfl T.g__law_below T.F__law_below.kp (T.b2__law_below) .nil (fun _ _ => .nil) rfl (sa_cons (se_call (modes := [false, false]) (more := []) (ok__law_less T) (hr.mono (by decide)) gd rfl T.g__law_less T.F__law_less.kp (T.b2__law_less) .nil (fun _ _ => .nil) rfl (sa_cons (se_var 2) (sa_cons (se_var 1) (sa_nil)))) (sa_cons (se_tup (sa_cons (se_int) (sa_cons (se_var 4) (sa_nil)))) (sa_nil)))) (se_one (se_or (se_cmp prim_eq (op_eqP hr.units) (nomark _) (se_var 4) (se_int)) (se_one (se_call (modes := [false, false]) (more := []) (ok__law_below T) (hr.mono (by decide)) gd rfl T.g__law_below T.F__law_below.kp (T.b2__law_below) .nil (fun _ _ => .nil) rfl (sa_cons (se_call (modes := [false, false]) (more := []) (ok__law_less T) (hr.mono (by decide)) gd rfl T.g__law_less T.F__law_less.kp (T.b2__law_less) .nil (fun _ _ => .nil) rfl (sa_cons (se_var 2) (sa_cons (se_var 1) (sa_nil)))) (sa_cons (se_call (modes := [false, false]) (more := []) (ok__law_odds T) (hr.mono (by decide)) gd rfl T.g__law_odds T.F__law_odds.kp (T.b2__law_odds) .nil (fun _ _ => .nil) rfl (sa_cons (se_int) (sa_cons (se_var 4) (sa_nil)))) (sa_nil)))))))))))))))⟩
theorem ok__law_ends (T : Tx K mg) : FnG P w K mg base CX0 3 T.f__law_ends T.d__law_ends ["table"] (spD K 1 m__law_ends) := by
  show FnG P w K mg base CX0 (2 + 1) T.f__law_ends T.d__law_ends ["table"] (spD K (["table"] : List Str).length (run N__law_ends.length g__law_ends))
  refine dl_ok (N := N__law_ends) (ps := ["table"]) (k := 2) (b := g__law_ends) T.F__law_ends sc__law_ends (by decide) ?_
  intro cdv A outer s H E hr gd
  exact ⟨_, dl_both (sss_cons (ss_parQ2 1 2 rfl sc__law_ends.nd rfl rfl (by decide) rfl rfl (se_int) (se_lst (sa_nil)) rfl) (sss_cons (ss_for PassesOwn.never rfl (si_seq (se_var 0)) (sg_name 3 sc__law_ends.nd rfl (Or.inl rfl)) (sss_cons (ss_set 1 sc__law_ends.nd rfl (Or.inl rfl) (se_add (se_var 1) (se_var 3))) (sss_one (ss_append 2 (fun h => pe_bm PySem.F.plainAttrs_list PySem.F.slot_list_append PySem.F.type_list_append mt_append (pv 2) (pa_cons h pa_nil)) (se_call (modes := [false, false]) (more := []) (ok__law_odds T) (hr.mono (by decide)) gd rfl T.g__law_odds T.F__law_odds.kp (T.b2__law_odds) .nil (fun _ _ => .nil) rfl (sa_cons (se_var 1) (sa_cons (se_callB prim_sum (cr_sum rfl) rfl T.n_sum (by decide +kernel) (sa_cons (se_var 0) (sa_nil))) (sa_nil)))))))) (sss_one (ss_ret (se_var 2)))))⟩
theorem ok__law_stretches (T : Tx K mg) : FnG P w K mg base CX0 6 T.f__law_stretches T.d__law_stretches ["one", "other"] (spD K 2 m__law_stretches) := by
  show FnG P w K mg base CX0 (5 + 1) T.f__law_stretches T.d__law_stretches ["one", "other"] (spD K (["one", "other"] : List Str).length (run N__law_stretches.length g__law_stretches))
  refine dl_ok (N := N__law_stretches) (ps := ["one", "other"]) (k := 5) (b := g__law_stretches) T.F__law_stretches sc__law_stretches (by decide) ?_
  intro cdv A outer s H E hr gd
  exact ⟨_, dl_both (sss_cons (ss_parW3 2 3 4 rfl sc__law_stretches.nd rfl rfl rfl (by decide) (by decide) (by decide) rfl rfl rfl (se_lst (sa_nil)) (se_lst (sa_nil)) (sa_cons (se_tup (sa_cons (se_int) (sa_cons (se_int) (sa_nil)))) (sa_nil)) rfl) (sss_cons (ss_for PassesOwn.never rfl (si_seq (se_add (se_call (modes := [false]) (more := []) (ok__law_ends T) (hr.mono (by decide)) gd rfl T.g__law_ends T.F__law_ends.kp (T.b1__law_ends) .nil (fun _ _ => .nil) rfl (sa_cons (se_var 0) (sa_nil))) (se_call (modes := [false]) (more := []) (ok__law_ends T) (hr.mono (by decide)) gd rfl T.g__law_ends T.F__law_ends.kp (T.b1__law_ends) .nil (fun _ _ => .nil) rfl (sa_cons (se_var 1) (sa_nil))))) (sg_name 5 sc__law_stretches.nd rfl (Or.inl rfl)) (sss_one (ss_set 2 sc__law_stretches.nd rfl (Or.inl rfl) (se_add (se_var 2) (se_mul (se_lst (sa_cons (se_var 5) (sa_nil))) (se_callTy prim_int call_int1 rfl T.n_int (by decide +kernel) (sa_cons (se_and (se_cmp prim_notInP (op_notInP hr.units) (by with_unfolding_all rfl) (se_var 5) (se_var 2)) (se_one (se_cmp prim_ne (op_neP hr.units) (nomark _) (se_var 5) (se_tup (sa_cons (se_int) (sa_cons (se_int) (sa_nil))))))) (sa_nil)))))))) (sss_cons (ss_while PassesOwn.never (st_cmp prim_ne (op_neP hr.units) (nomark _) (se_var 2) (se_lst (sa_nil))) (sss_cons (ss_set 6 sc__law_stretches.nd rfl (Or.inl rfl) (se_ix (se_var 2) (se_int))) (sss_cons (ss_forB 2 PassesOwn.never rfl (by decide) (frame_set (by decide)) (si_seq (se_var 2)) (sg_name 5 sc__law_stretches.nd rfl (Or.inl rfl)) (sss_one (ss_set 6 sc__law_stretches.nd rfl (Or.inl rfl) (se_if (st_val (se_call (modes := [false, false]) (more := []) (ok__law_below T) (hr.mono (by decide)) gd rfl T.g__law_below T.F__law_below.kp (T.b2__law_below) .nil (fun _ _ => .nil) rfl (sa_cons (se_var 5) (sa_cons (se_var 6) (sa_nil))))) (se_var 5) (se_var 6))))) (sss_cons (ss_removeD 2 (fun h => pe_bm PySem.F.plainAttrs_list PySem.F.slot_list_remove PySem.F.type_list_remove (mt_removeP hr.units) (pv 2) (pa_cons h pa_nil)) (se_var 6)) (sss_cons (ss_append 3 (fun h => pe_bm PySem.F.plainAttrs_list PySem.F.slot_list_append PySem.F.type_list_append mt_append (pv 3) (pa_cons h pa_nil)) (se_tup (sa_cons (se_var 4) (sa_cons (se_var 6) (sa_cons (se_call (modes := [false, false]) (more := []) (ok_place_drawn T) (hr.mono (by decide)) gd rfl T.g_place_drawn T.F_place_drawn.kp (T.b2_place_drawn) .nil (fun _ _ => .nil) rfl (sa_cons (se_var 0) (sa_cons (se_var 4) (sa_nil)))) (sa_cons (se_call (modes := [false, false]) (more := []) (ok_place_drawn T) (hr.mono (by decide)) gd rfl T.g_place_drawn T.F_place_drawn.kp (T.b2_place_drawn) .nil (fun _ _ => .nil) rfl (sa_cons (se_var 1) (sa_cons (se_var 4) (sa_nil)))) (sa_nil))))))) (sss_one (ss_set 4 sc__law_stretches.nd rfl (Or.inl rfl) (se_var 6)))))))) (sss_one (ss_ret (se_var 3))))))⟩
theorem ok__law_parted (T : Tx K mg) : FnG P w K mg base CX0 1 T.f__law_parted T.d__law_parted ["stretches"] (spD K 1 m__law_parted) := by
  show FnG P w K mg base CX0 (0 + 1) T.f__law_parted T.d__law_parted ["stretches"] (spD K (["stretches"] : List Str).length (run N__law_parted.length g__law_parted))
  refine dl_ok (N := N__law_parted) (ps := ["stretches"]) (k := 0) (b := g__law_parted) T.F__law_parted sc__law_parted (by decide) ?_
  intro cdv A outer s H E hr gd
  exact ⟨_, dl_both (sss_cons (ss_set 1 sc__law_parted.nd rfl (Or.inl rfl) (se_lst (sa_nil))) (sss_cons (ss_for PassesOwn.never rfl (si_seq (se_var 0)) (sg_tup rfl (sgs_cons (sg_name 2 sc__law_parted.nd rfl (Or.inl rfl)) (sgs_cons (sg_name 3 sc__law_parted.nd rfl (Or.inl rfl)) (sgs_cons (sg_name 4 sc__law_parted.nd rfl (Or.inl rfl)) (sgs_cons (sg_name 5 sc__law_parted.nd rfl (Or.inl rfl)) (sgs_nil)))))) (sss_one (ss_if (st_w (sw_and (st_cmp prim_ne (op_neP hr.units) (nomark _) (se_var 4) (se_var 5)) (sw_and (st_cmp prim_ne (op_neP hr.units) (nomark _) (se_var 1) (se_lst (sa_nil))) (sw_and1 (st_cmp prim_eq (op_eqP hr.units) (nomark _) (se_sliceT (se_ix (se_var 1) (se_neg (se_int))) (so_some (se_int)) (so_none)) (se_tup (sa_cons (se_var 2) (sa_cons (se_var 4) (sa_cons (se_var 5) (sa_nil)))))))))) (sss_one (ss_setIx 1 (pv 1) (se_neg (se_int)) (se_tup (sa_cons (se_ix (se_ix (se_var 1) (se_neg (se_int))) (se_int)) (sa_cons (se_var 3) (sa_cons (se_var 4) (sa_cons (se_var 5) (sa_nil)))))))) (sss_one (ss_if (st_cmp prim_ne (op_neP hr.units) (nomark _) (se_var 4) (se_var 5)) (sss_one (ss_append 1 (fun h => pe_bm PySem.F.plainAttrs_list PySem.F.slot_list_append PySem.F.type_list_append mt_append (pv 1) (pa_cons h pa_nil)) (se_tup (sa_cons (se_var 2) (sa_cons (se_var 3) (sa_cons (se_var 4) (sa_cons (se_var 5) (sa_nil)))))))) (sss_nil)))))) (sss_one (ss_ret (se_var 1)))))⟩
theorem ok__law_two_right (T : Tx K mg) : FnG P w K mg base CX0 9 T.f__law_two_right T.d__law_two_right ["generator", "places"] (spD K 2 m__law_two_right) := by
  show FnG P w K mg base CX0 (8 + 1) T.f__law_two_right T.d__law_two_right ["generator", "places"] (spD K (["generator", "places"] : List Str).length (run N__law_two_right.length g__law_two_right))
  refine dl_ok (N := N__law_two_right) (ps := ["generator", "places"]) (k := 8) (b := g__law_two_right) T.F__law_two_right sc__law_two_right (by decide) ?_
  intro cdv A outer s H E hr gd
  exact ⟨_, dl_both (sss_cons (ss_par 2 3 rfl sc__law_two_right.nd rfl rfl (by decide) rfl rfl (sa_cons (se_call (modes := [true, false]) (more := []) (ok__law_table T) (hr.mono (by decide)) gd rfl T.g__law_table T.F__law_table.kp (T.b2__law_table) .nil (fun _ _ => .nil) rfl (sa_cons (se_var 0) (sa_cons (se_var 1) (sa_nil)))) (sa_cons (se_call (modes := [true, false]) (more := []) (ok__law_table T) (hr.mono (by decide)) gd rfl T.g__law_table T.F__law_table.kp (T.b2__law_table) .nil (fun _ _ => .nil) rfl (sa_cons (se_var 0) (sa_cons (se_var 1) (sa_nil)))) (sa_nil))) rfl) (sss_cons (ss_if (st_cmp prim_eq (op_eqP hr.units) (nomark _) (se_call (modes := [true, false]) (more := []) (ok__law_random T) (hr.mono (by decide)) gd rfl T.g__law_random T.F__law_random.kp (T.b2__law_random) .nil (fun _ _ => .nil) rfl (sa_cons (se_var 0) (sa_cons (se_int) (sa_nil)))) (se_int)) (sss_one (ss_setLc 3 rfl sc__law_two_right.nd rfl rfl (sw_true rfl rfl rfl (by decide +kernel)) (si_seq (se_var 2)) (blkOk_by (own := [("count", 10)]) (N := N__law_two_right) (sc := defScope s__law_two_right) (by decide +kernel)) (fun _ _ _ _ _ => sg_name 10 sc__law_two_right.nd rfl (Or.inl rfl)) (fun _ _ _ _ _ => sts_nil) (fun _ _ _ _ _ => se_mul (se_var 10) (se_int)) rfl (by decide))) (sss_nil)) (sss_cons (ss_par 4 5 rfl sc__law_two_right.nd rfl rfl (by decide) rfl rfl (sa_cons (se_callB prim_repr (call_repr gd hr.units) rfl T.n_repr (by decide +kernel) (sa_cons (se_lst (sa_cons (se_var 2) (sa_cons (se_var 3) (sa_nil)))) (sa_nil))) (sa_cons (se_call (modes := [false, false]) (more := []) (ok__law_stretches T) (hr.mono (by decide)) gd rfl T.g__law_stretches T.F__law_stretches.kp (T.b2__law_stretches) .nil (fun _ _ => .nil) rfl (sa_cons (se_var 2) (sa_cons (se_var 3) (sa_nil)))) (sa_nil))) rfl) (sss_cons (ss_set 6 sc__law_two_right.nd rfl (Or.inl rfl) (se_call (modes := [false]) (more := []) (ok__law_sum T) (hr.mono (by decide)) gd rfl T.g__law_sum T.F__law_sum.kp (T.b1__law_sum) .nil (fun _ _ => .nil) rfl (sa_cons (se_lc rfl sc__law_two_right.nd (si_seq (se_var 5)) (blkOk_by (own := [("low", 11), ("high", 12), ("place", 13), ("beside", 14)]) (N := N__law_two_right) (sc := defScope s__law_two_right) (by decide +kernel)) (fun _ _ _ _ _ => sg_tup rfl (sgs_cons (sg_name 11 sc__law_two_right.nd rfl (Or.inl rfl)) (sgs_cons (sg_name 12 sc__law_two_right.nd rfl (Or.inl rfl)) (sgs_cons (sg_name 13 sc__law_two_right.nd rfl (Or.inl rfl)) (sgs_cons (sg_name 14 sc__law_two_right.nd rfl (Or.inl rfl)) (sgs_nil)))))) (fun _ _ _ _ _ => sts_one (st_cmp prim_eq (op_eqP hr.units) (nomark _) (se_var 13) (se_var 14))) (fun _ _ _ _ _ => se_call (modes := [false, false]) (more := []) (ok__law_less T) (hr.mono (by decide)) gd rfl T.g__law_less T.F__law_less.kp (T.b2__law_less) .nil (fun _ _ => .nil) rfl (sa_cons (se_var 12) (sa_cons (se_var 11) (sa_nil)))) rfl (by decide)) (sa_nil)))) (sss_cons (ss_set 7 sc__law_two_right.nd rfl (Or.inl rfl) (se_call (modes := [false]) (more := []) (ok__law_parted T) (hr.mono (by decide)) gd rfl T.g__law_parted T.F__law_parted.kp (T.b1__law_parted) .nil (fun _ _ => .nil) rfl (sa_cons (se_var 5) (sa_nil)))) (sss_cons (ss_set 8 sc__law_two_right.nd rfl (Or.inl rfl) (se_call (modes := [false, false]) (more := []) (ok_parted_spans T) (hr.mono (by decide)) gd rfl T.g_parted_spans T.F_parted_spans.kp (T.b2_parted_spans) .nil (fun _ _ => .nil) rfl (sa_cons (se_var 2) (sa_cons (se_var 3) (sa_nil))))) (sss_cons (ss_if (st_w (sw_or (st_not (st_val (se_call (modes := [false, false]) (more := []) (ok__law_same T 8) (hr.mono (by decide)) gd rfl T.g__law_same T.F__law_same.kp (T.b2__law_same) .nil (fun _ _ => .nil) rfl (sa_cons (se_call (modes := [false, false]) (more := []) (ok_alike_given T) (hr.mono (by decide)) gd rfl T.g_alike_given T.F_alike_given.kp (T.b2_alike_given) .nil (fun _ _ => .nil) rfl (sa_cons (se_var 2) (sa_cons (se_var 3) (sa_nil)))) (sa_cons (se_var 6) (sa_nil)))))) (sw_or1 (st_not (st_val (se_call (modes := [false, false]) (more := []) (ok__law_same T 8) (hr.mono (by decide)) gd rfl T.g__law_same T.F__law_same.kp (T.b2__law_same) .nil (fun _ _ => .nil) rfl (sa_cons (se_callP0 (more := []) (ok_alike_given T) (hr.mono (by decide)) gd rfl T.g_alike_given T.F_alike_given.kp T.k0_other_one_alike_given .nil (fun _ _ => .nil) rfl rfl (sk_cons (se_var 3) (sk_cons (se_var 2) (sk_nil)))) (sa_cons (se_var 6) (sa_nil))))))))) (sss_one (ss_ret (se_bl))) (sss_nil)) (sss_cons (ss_if (st_borrow (st_w (sw_or (st_not (st_val (se_call (modes := [false, false]) (more := []) (ok__law_same T 8) (hr.mono (by decide)) gd rfl T.g__law_same T.F__law_same.kp (T.b2__law_same) .nil (fun _ _ => .nil) rfl (sa_cons (se_var 8) (sa_cons (se_var 7) (sa_nil)))))) (sw_or1 (st_cmp prim_ne (op_neP hr.units) (nomark _) (se_call (modes := [false]) (more := []) (ok__law_sum T) (hr.mono (by decide)) gd rfl T.g__law_sum T.F__law_sum.kp (T.b1__law_sum) .nil (fun _ _ => .nil) rfl (sa_cons (se_add (se_lst (sa_cons (se_var 6) (sa_nil))) (se_lc rfl sc__law_two_right.nd (si_seq (se_var 8)) (blkOk_by (own := [("low", 11), ("high", 12), ("place", 13), ("beside", 14)]) (N := N__law_two_right) (sc := defScope s__law_two_right) (by decide +kernel)) (fun _ _ _ _ _ => sg_tup rfl (sgs_cons (sg_name 11 sc__law_two_right.nd rfl (Or.inl rfl)) (sgs_cons (sg_name 12 sc__law_two_right.nd rfl (Or.inl rfl)) (sgs_cons (sg_name 13 sc__law_two_right.nd rfl (Or.inl rfl)) (sgs_cons (sg_name 14 sc__law_two_right.nd rfl (Or.inl rfl)) (sgs_nil)))))) (fun _ _ _ _ _ => sts_nil) (fun _ _ _ _ _ => se_call (modes := [false, false]) (more := []) (ok__law_less T) (hr.mono (by decide)) gd rfl T.g__law_less T.F__law_less.kp (T.b2__law_less) .nil (fun _ _ => .nil) rfl (sa_cons (se_var 12) (sa_cons (se_var 11) (sa_nil)))) rfl (by decide))) (sa_nil))) (se_tup (sa_cons (se_int) (sa_cons (se_int) (sa_nil))))))))) (sss_one (ss_ret (se_bl))) (sss_nil)) (sss_cons (ss_set 9 sc__law_two_right.nd rfl (Or.inl rfl) (se_call (modes := [false, false]) (more := []) (ok_overlap T) (hr.mono (by decide)) gd rfl T.g_overlap T.F_overlap.kp (T.b2_overlap) .nil (fun _ _ => .nil) rfl (sa_cons (se_var 2) (sa_cons (se_var 3) (sa_nil))))) (sss_cons (ss_if (st_w (sw_or (st_val (se_call (modes := [false, false]) (more := []) (ok__law_below T) (hr.mono (by decide)) gd rfl T.g__law_below T.F__law_below.kp (T.b2__law_below) .nil (fun _ _ => .nil) rfl (sa_cons (se_var 9) (sa_cons (se_var 6) (sa_nil))))) (sw_or1 (st_w (sw_and (st_cmp prim_cmp op_lt (nomark _) (se_var 1) (se_int)) (sw_and1 (st_cmp prim_ne (op_neP hr.units) (nomark _) (se_var 6) (se_var 9)))))))) (sss_one (ss_ret (se_bl))) (sss_nil)) (sss_cons (ss_append 8 (fun h => pe_bm PySem.F.plainAttrs_list PySem.F.slot_list_append PySem.F.type_list_append mt_append (pv 8) (pa_cons h pa_nil)) (se_non)) (sss_one (ss_ret (se_and (se_call (modes := [false, false]) (more := []) (ok__law_same T 8) (hr.mono (by decide)) gd rfl T.g__law_same T.F__law_same.kp (T.b2__law_same) .nil (fun _ _ => .nil) rfl (sa_cons (se_callP0 (more := []) (ok_parted_spans T) (hr.mono (by decide)) gd rfl T.g_parted_spans T.F_parted_spans.kp T.k0_other_one_parted_spans .nil (fun _ _ => .nil) rfl rfl (sk_cons (se_var 3) (sk_cons (se_var 2) (sk_nil)))) (sa_cons (se_var 7) (sa_nil)))) (se_one (se_cmp prim_eq (op_eqP hr.units) (nomark _) (se_callB prim_repr (call_repr gd hr.units) rfl T.n_repr (by decide +kernel) (sa_cons (se_lst (sa_cons (se_var 2) (sa_cons (se_var 3) (sa_nil)))) (sa_nil))) (se_var 4)))))))))))))))))⟩
theorem ok_law (T : Tx K mg) : FnG P w K mg base CX0 10 T.f_law T.d_law ["script"] (spD K 1 m_law) := by
  show FnG P w K mg base CX0 (9 + 1) T.f_law T.d_law ["script"] (spD K (["script"] : List Str).length (run N_law.length g_law))
  refine dl_ok (N := N_law) (ps := ["script"]) (k := 9) (b := g_law) T.F_law sc_law (by decide) ?_
  intro cdv A outer s H E hr gd
  exact ⟨_, dl_both (sss_cons (ss_for PassesOwn.never rfl (si_range1 rfl T.n_range (sa_cons (se_int) (sa_nil))) (sg_name 1 sc_law.nd rfl (Or.inl rfl)) (sss_cons (ss_set 2 sc_law.nd rfl (Or.inl rfl) (se_call (modes := [false, false]) (more := []) (ok__law_generator T) (hr.mono (by decide)) gd rfl T.g__law_generator T.F__law_generator.kp (T.b2__law_generator) .nil (fun _ _ => .nil) rfl (sa_cons (se_var 0) (sa_cons (se_var 1) (sa_nil))))) (sss_one (ss_if (st_w (sw_or (st_not (st_val (se_call (modes := [true]) (more := []) (ok__law_short_right T) (hr.mono (by decide)) gd rfl T.g__law_short_right T.F__law_short_right.kp (T.b1__law_short_right) .nil (fun _ _ => .nil) rfl (sa_cons (se_var 2) (sa_nil))))) (sw_or (st_not (st_val (se_call (modes := [true, false]) (more := []) (ok__law_two_right T) (hr.mono (by decide)) gd rfl T.g__law_two_right T.F__law_two_right.kp (T.b2__law_two_right) .nil (fun _ _ => .nil) rfl (sa_cons (se_var 2) (sa_cons (se_add (se_int) (se_call (modes := [true, false]) (more := []) (ok__law_random T) (hr.mono (by decide)) gd rfl T.g__law_random T.F__law_random.kp (T.b2__law_random) .nil (fun _ _ => .nil) rfl (sa_cons (se_var 2) (sa_cons (se_int) (sa_nil))))) (sa_nil)))))) (sw_or1 (st_not (st_val (se_call (modes := [true, false]) (more := []) (ok__law_two_right T) (hr.mono (by decide)) gd rfl T.g__law_two_right T.F__law_two_right.kp (T.b2__law_two_right) .nil (fun _ _ => .nil) rfl (sa_cons (se_var 2) (sa_cons (se_int) (sa_nil)))))))))) (sss_one (ss_ret (se_bl))) (sss_nil))))) (sss_one (ss_ret (se_bl))))⟩
end
theorem all_mk {K : PySem.W.Frag} {h : Heap} {mg : Str → Option Value} (X : K.In h) (G : h.Ns mainGlobals mg)
    {f1 : Addr} {od1 an1 : Option Addr} {sl1 : Array (Option Value)} {oc1 kV1 dc1 pm1 cd1 ct1 : Value}
    {T1 : Addr} {cT1 : Value} {dT1 : Option Addr} {nT1 : Nat} {sT1 : Array (Option Value)} {tk1_0 : Tok}
    {f2 : Addr} {od2 an2 : Option Addr} {sl2 : Array (Option Value)} {oc2 kV2 dc2 pm2 cd2 ct2 : Value}
    {f3 : Addr} {od3 an3 : Option Addr} {sl3 : Array (Option Value)} {oc3 kV3 dc3 pm3 cd3 ct3 : Value}
    {f4 : Addr} {od4 an4 : Option Addr} {sl4 : Array (Option Value)} {oc4 kV4 dc4 pm4 cd4 ct4 : Value}
    {f5 : Addr} {od5 an5 : Option Addr} {sl5 : Array (Option Value)} {oc5 kV5 dc5 pm5 cd5 ct5 : Value}
    {f6 : Addr} {od6 an6 : Option Addr} {sl6 : Array (Option Value)} {oc6 kV6 dc6 pm6 cd6 ct6 : Value}
    {f7 : Addr} {od7 an7 : Option Addr} {sl7 : Array (Option Value)} {oc7 kV7 dc7 pm7 cd7 ct7 : Value}
    {f8 : Addr} {od8 an8 : Option Addr} {sl8 : Array (Option Value)} {oc8 kV8 dc8 pm8 cd8 ct8 : Value}
    {f9 : Addr} {od9 an9 : Option Addr} {sl9 : Array (Option Value)} {oc9 kV9 dc9 pm9 cd9 ct9 : Value}
    {f10 : Addr} {od10 an10 : Option Addr} {sl10 : Array (Option Value)} {oc10 kV10 dc10 pm10 cd10 ct10 : Value}
    {f11 : Addr} {od11 an11 : Option Addr} {sl11 : Array (Option Value)} {oc11 kV11 dc11 pm11 cd11 ct11 : Value}
    {f12 : Addr} {od12 an12 : Option Addr} {sl12 : Array (Option Value)} {oc12 kV12 dc12 pm12 cd12 ct12 : Value}
    {f13 : Addr} {od13 an13 : Option Addr} {sl13 : Array (Option Value)} {oc13 kV13 dc13 pm13 cd13 ct13 : Value}
    {f14 : Addr} {od14 an14 : Option Addr} {sl14 : Array (Option Value)} {oc14 kV14 dc14 pm14 cd14 ct14 : Value}
    {f15 : Addr} {od15 an15 : Option Addr} {sl15 : Array (Option Value)} {oc15 kV15 dc15 pm15 cd15 ct15 : Value}
    {f16 : Addr} {od16 an16 : Option Addr} {sl16 : Array (Option Value)} {oc16 kV16 dc16 pm16 cd16 ct16 : Value}
    {f17 : Addr} {od17 an17 : Option Addr} {sl17 : Array (Option Value)} {oc17 kV17 dc17 pm17 cd17 ct17 : Value}
    {f18 : Addr} {od18 an18 : Option Addr} {sl18 : Array (Option Value)} {oc18 kV18 dc18 pm18 cd18 ct18 : Value}
    {f19 : Addr} {od19 an19 : Option Addr} {sl19 : Array (Option Value)} {oc19 kV19 dc19 pm19 cd19 ct19 : Value}
    {f20 : Addr} {od20 an20 : Option Addr} {sl20 : Array (Option Value)} {oc20 kV20 dc20 pm20 cd20 ct20 : Value}
    {f21 : Addr} {od21 an21 : Option Addr} {sl21 : Array (Option Value)} {oc21 kV21 dc21 pm21 cd21 ct21 : Value}
    {f22 : Addr} {od22 an22 : Option Addr} {sl22 : Array (Option Value)} {oc22 kV22 dc22 pm22 cd22 ct22 : Value}
    {f23 : Addr} {od23 an23 : Option Addr} {sl23 : Array (Option Value)} {oc23 kV23 dc23 pm23 cd23 ct23 : Value}
    {f24 : Addr} {od24 an24 : Option Addr} {sl24 : Array (Option Value)} {oc24 kV24 dc24 pm24 cd24 ct24 : Value}
    {f25 : Addr} {od25 an25 : Option Addr} {sl25 : Array (Option Value)} {oc25 kV25 dc25 pm25 cd25 ct25 : Value}
    {f26 : Addr} {od26 an26 : Option Addr} {sl26 : Array (Option Value)} {oc26 kV26 dc26 pm26 cd26 ct26 : Value}
    {f27 : Addr} {od27 an27 : Option Addr} {sl27 : Array (Option Value)} {oc27 kV27 dc27 pm27 cd27 ct27 : Value}
    {f28 : Addr} {od28 an28 : Option Addr} {sl28 : Array (Option Value)} {oc28 kV28 dc28 pm28 cd28 ct28 : Value}
    {f29 : Addr} {od29 an29 : Option Addr} {sl29 : Array (Option Value)} {oc29 kV29 dc29 pm29 cd29 ct29 : Value}
    {f30 : Addr} {od30 an30 : Option Addr} {sl30 : Array (Option Value)} {oc30 kV30 dc30 pm30 cd30 ct30 : Value}
    {f31 : Addr} {od31 an31 : Option Addr} {sl31 : Array (Option Value)} {oc31 kV31 dc31 pm31 cd31 ct31 : Value}
    {f32 : Addr} {od32 an32 : Option Addr} {sl32 : Array (Option Value)} {oc32 kV32 dc32 pm32 cd32 ct32 : Value}
    {f33 : Addr} {od33 an33 : Option Addr} {sl33 : Array (Option Value)} {oc33 kV33 dc33 pm33 cd33 ct33 : Value}
    {f34 : Addr} {od34 an34 : Option Addr} {sl34 : Array (Option Value)} {oc34 kV34 dc34 pm34 cd34 ct34 : Value}
    {f35 : Addr} {od35 an35 : Option Addr} {sl35 : Array (Option Value)} {oc35 kV35 dc35 pm35 cd35 ct35 : Value}
    {f36 : Addr} {od36 an36 : Option Addr} {sl36 : Array (Option Value)} {oc36 kV36 dc36 pm36 cd36 ct36 : Value}
    {f37 : Addr} {od37 an37 : Option Addr} {sl37 : Array (Option Value)} {oc37 kV37 dc37 pm37 cd37 ct37 : Value}
    {f38 : Addr} {od38 an38 : Option Addr} {sl38 : Array (Option Value)} {oc38 kV38 dc38 pm38 cd38 ct38 : Value}
    {f39 : Addr} {od39 an39 : Option Addr} {sl39 : Array (Option Value)} {oc39 kV39 dc39 pm39 cd39 ct39 : Value}
    {f40 : Addr} {od40 an40 : Option Addr} {sl40 : Array (Option Value)} {oc40 kV40 dc40 pm40 cd40 ct40 : Value}
    {f41 : Addr} {od41 an41 : Option Addr} {sl41 : Array (Option Value)} {oc41 kV41 dc41 pm41 cd41 ct41 : Value}
    {f42 : Addr} {od42 an42 : Option Addr} {sl42 : Array (Option Value)} {oc42 kV42 dc42 pm42 cd42 ct42 : Value}
    {f43 : Addr} {od43 an43 : Option Addr} {sl43 : Array (Option Value)} {oc43 kV43 dc43 pm43 cd43 ct43 : Value}
    {f44 : Addr} {od44 an44 : Option Addr} {sl44 : Array (Option Value)} {oc44 kV44 dc44 pm44 cd44 ct44 : Value}
    {f45 : Addr} {od45 an45 : Option Addr} {sl45 : Array (Option Value)} {oc45 kV45 dc45 pm45 cd45 ct45 : Value}
    {f46 : Addr} {od46 an46 : Option Addr} {sl46 : Array (Option Value)} {oc46 kV46 dc46 pm46 cd46 ct46 : Value}
    {f47 : Addr} {od47 an47 : Option Addr} {sl47 : Array (Option Value)} {oc47 kV47 dc47 pm47 cd47 ct47 : Value}
    (a1 : PySem.W.nsIn K mainGlobals "is_count" = some (some (.ref f1)))
    (l1 : K.lookup f1 = some ⟨oc1, od1, .func (PySem.W.fnOf "is_count" "is_count" (defArgs s_is_count) (defBody s_is_count) (defScope s_is_count) (.ref T1) kV1 dc1 pm1 an1 cd1 ct1), sl1⟩)
    (t1 : K.lookup T1 = some ⟨cT1, dT1, .seq (List.toArray [.int 0 tk1_0]) nT1, sT1⟩)
    (c1 : PySem.W.codeIn K cd1 "is_count" = true)
    (k1 : PySem.W.keepIn K (.ref f1) = true)
    (a2 : PySem.W.nsIn K mainGlobals "divisor" = some (some (.ref f2)))
    (l2 : K.lookup f2 = some ⟨oc2, od2, .func (PySem.W.fnOf "divisor" "divisor" (defArgs s_divisor) (defBody s_divisor) (defScope s_divisor) .none kV2 dc2 pm2 an2 cd2 ct2), sl2⟩)
    (c2 : PySem.W.codeIn K cd2 "divisor" = true)
    (k2 : PySem.W.keepIn K (.ref f2) = true)
    (a3 : PySem.W.nsIn K mainGlobals "is_odds" = some (some (.ref f3)))
    (l3 : K.lookup f3 = some ⟨oc3, od3, .func (PySem.W.fnOf "is_odds" "is_odds" (defArgs s_is_odds) (defBody s_is_odds) (defScope s_is_odds) .none kV3 dc3 pm3 an3 cd3 ct3), sl3⟩)
    (c3 : PySem.W.codeIn K cd3 "is_odds" = true)
    (k3 : PySem.W.keepIn K (.ref f3) = true)
    (a4 : PySem.W.nsIn K mainGlobals "by_lowest" = some (some (.ref f4)))
    (l4 : K.lookup f4 = some ⟨oc4, od4, .func (PySem.W.fnOf "by_lowest" "by_lowest" (defArgs s_by_lowest) (defBody s_by_lowest) (defScope s_by_lowest) .none kV4 dc4 pm4 an4 cd4 ct4), sl4⟩)
    (c4 : PySem.W.codeIn K cd4 "by_lowest" = true)
    (k4 : PySem.W.keepIn K (.ref f4) = true)
    (a5 : PySem.W.nsIn K mainGlobals "odds_of" = some (some (.ref f5)))
    (l5 : K.lookup f5 = some ⟨oc5, od5, .func (PySem.W.fnOf "odds_of" "odds_of" (defArgs s_odds_of) (defBody s_odds_of) (defScope s_odds_of) .none kV5 dc5 pm5 an5 cd5 ct5), sl5⟩)
    (c5 : PySem.W.codeIn K cd5 "odds_of" = true)
    (k5 : PySem.W.keepIn K (.ref f5) = true)
    (a6 : PySem.W.nsIn K mainGlobals "put_together" = some (some (.ref f6)))
    (l6 : K.lookup f6 = some ⟨oc6, od6, .func (PySem.W.fnOf "put_together" "put_together" (defArgs s_put_together) (defBody s_put_together) (defScope s_put_together) .none kV6 dc6 pm6 an6 cd6 ct6), sl6⟩)
    (c6 : PySem.W.codeIn K cd6 "put_together" = true)
    (k6 : PySem.W.keepIn K (.ref f6) = true)
    (a7 : PySem.W.nsIn K mainGlobals "is_below" = some (some (.ref f7)))
    (l7 : K.lookup f7 = some ⟨oc7, od7, .func (PySem.W.fnOf "is_below" "is_below" (defArgs s_is_below) (defBody s_is_below) (defScope s_is_below) .none kV7 dc7 pm7 an7 cd7 ct7), sl7⟩)
    (c7 : PySem.W.codeIn K cd7 "is_below" = true)
    (k7 : PySem.W.keepIn K (.ref f7) = true)
    (a8 : PySem.W.nsIn K mainGlobals "total" = some (some (.ref f8)))
    (l8 : K.lookup f8 = some ⟨oc8, od8, .func (PySem.W.fnOf "total" "total" (defArgs s_total) (defBody s_total) (defScope s_total) .none kV8 dc8 pm8 an8 cd8 ct8), sl8⟩)
    (c8 : PySem.W.codeIn K cd8 "total" = true)
    (k8 : PySem.W.keepIn K (.ref f8) = true)
    (a9 : PySem.W.nsIn K mainGlobals "are_counts" = some (some (.ref f9)))
    (l9 : K.lookup f9 = some ⟨oc9, od9, .func (PySem.W.fnOf "are_counts" "are_counts" (defArgs s_are_counts) (defBody s_are_counts) (defScope s_are_counts) .none kV9 dc9 pm9 an9 cd9 ct9), sl9⟩)
    (c9 : PySem.W.codeIn K cd9 "are_counts" = true)
    (k9 : PySem.W.keepIn K (.ref f9) = true)
    (a10 : PySem.W.nsIn K mainGlobals "is_table" = some (some (.ref f10)))
    (l10 : K.lookup f10 = some ⟨oc10, od10, .func (PySem.W.fnOf "is_table" "is_table" (defArgs s_is_table) (defBody s_is_table) (defScope s_is_table) .none kV10 dc10 pm10 an10 cd10 ct10), sl10⟩)
    (c10 : PySem.W.codeIn K cd10 "is_table" = true)
    (k10 : PySem.W.keepIn K (.ref f10) = true)
    (a11 : PySem.W.nsIn K mainGlobals "look_at_table" = some (some (.ref f11)))
    (l11 : K.lookup f11 = some ⟨oc11, od11, .func (PySem.W.fnOf "look_at_table" "look_at_table" (defArgs s_look_at_table) (defBody s_look_at_table) (defScope s_look_at_table) .none kV11 dc11 pm11 an11 cd11 ct11), sl11⟩)
    (c11 : PySem.W.codeIn K cd11 "look_at_table" = true)
    (k11 : PySem.W.keepIn K (.ref f11) = true)
    (a12 : PySem.W.nsIn K mainGlobals "look_at_two" = some (some (.ref f12)))
    (l12 : K.lookup f12 = some ⟨oc12, od12, .func (PySem.W.fnOf "look_at_two" "look_at_two" (defArgs s_look_at_two) (defBody s_look_at_two) (defScope s_look_at_two) .none kV12 dc12 pm12 an12 cd12 ct12), sl12⟩)
    (c12 : PySem.W.codeIn K cd12 "look_at_two" = true)
    (k12 : PySem.W.keepIn K (.ref f12) = true)
    (a13 : PySem.W.nsIn K mainGlobals "odds_in" = some (some (.ref f13)))
    (l13 : K.lookup f13 = some ⟨oc13, od13, .func (PySem.W.fnOf "odds_in" "odds_in" (defArgs s_odds_in) (defBody s_odds_in) (defScope s_odds_in) .none kV13 dc13 pm13 an13 cd13 ct13), sl13⟩)
    (c13 : PySem.W.codeIn K cd13 "odds_in" = true)
    (k13 : PySem.W.keepIn K (.ref f13) = true)
    (a14 : PySem.W.nsIn K mainGlobals "common_odds" = some (some (.ref f14)))
    (l14 : K.lookup f14 = some ⟨oc14, od14, .func (PySem.W.fnOf "common_odds" "common_odds" (defArgs s_common_odds) (defBody s_common_odds) (defScope s_common_odds) .none kV14 dc14 pm14 an14 cd14 ct14), sl14⟩)
    (c14 : PySem.W.codeIn K cd14 "common_odds" = true)
    (k14 : PySem.W.keepIn K (.ref f14) = true)
    (a15 : PySem.W.nsIn K mainGlobals "overlap" = some (some (.ref f15)))
    (l15 : K.lookup f15 = some ⟨oc15, od15, .func (PySem.W.fnOf "overlap" "overlap" (defArgs s_overlap) (defBody s_overlap) (defScope s_overlap) .none kV15 dc15 pm15 an15 cd15 ct15), sl15⟩)
    (c15 : PySem.W.codeIn K cd15 "overlap" = true)
    (k15 : PySem.W.keepIn K (.ref f15) = true)
    (a16 : PySem.W.nsIn K mainGlobals "is_draw" = some (some (.ref f16)))
    (l16 : K.lookup f16 = some ⟨oc16, od16, .func (PySem.W.fnOf "is_draw" "is_draw" (defArgs s_is_draw) (defBody s_is_draw) (defScope s_is_draw) .none kV16 dc16 pm16 an16 cd16 ct16), sl16⟩)
    (c16 : PySem.W.codeIn K cd16 "is_draw" = true)
    (k16 : PySem.W.keepIn K (.ref f16) = true)
    (a17 : PySem.W.nsIn K mainGlobals "check_table" = some (some (.ref f17)))
    (l17 : K.lookup f17 = some ⟨oc17, od17, .func (PySem.W.fnOf "check_table" "check_table" (defArgs s_check_table) (defBody s_check_table) (defScope s_check_table) .none kV17 dc17 pm17 an17 cd17 ct17), sl17⟩)
    (c17 : PySem.W.codeIn K cd17 "check_table" = true)
    (k17 : PySem.W.keepIn K (.ref f17) = true)
    (a18 : PySem.W.nsIn K mainGlobals "check_draw" = some (some (.ref f18)))
    (l18 : K.lookup f18 = some ⟨oc18, od18, .func (PySem.W.fnOf "check_draw" "check_draw" (defArgs s_check_draw) (defBody s_check_draw) (defScope s_check_draw) .none kV18 dc18 pm18 an18 cd18 ct18), sl18⟩)
    (c18 : PySem.W.codeIn K cd18 "check_draw" = true)
    (k18 : PySem.W.keepIn K (.ref f18) = true)
    (a19 : PySem.W.nsIn K mainGlobals "place_given" = some (some (.ref f19)))
    (l19 : K.lookup f19 = some ⟨oc19, od19, .func (PySem.W.fnOf "place_given" "place_given" (defArgs s_place_given) (defBody s_place_given) (defScope s_place_given) .none kV19 dc19 pm19 an19 cd19 ct19), sl19⟩)
    (c19 : PySem.W.codeIn K cd19 "place_given" = true)
    (k19 : PySem.W.keepIn K (.ref f19) = true)
    (a20 : PySem.W.nsIn K mainGlobals "place_drawn" = some (some (.ref f20)))
    (l20 : K.lookup f20 = some ⟨oc20, od20, .func (PySem.W.fnOf "place_drawn" "place_drawn" (defArgs s_place_drawn) (defBody s_place_drawn) (defScope s_place_drawn) .none kV20 dc20 pm20 an20 cd20 ct20), sl20⟩)
    (c20 : PySem.W.codeIn K cd20 "place_drawn" = true)
    (k20 : PySem.W.keepIn K (.ref f20) = true)
    (a21 : PySem.W.nsIn K mainGlobals "shortest_draw" = some (some (.ref f21)))
    (l21 : K.lookup f21 = some ⟨oc21, od21, .func (PySem.W.fnOf "shortest_draw" "shortest_draw" (defArgs s_shortest_draw) (defBody s_shortest_draw) (defScope s_shortest_draw) .none kV21 dc21 pm21 an21 cd21 ct21), sl21⟩)
    (c21 : PySem.W.codeIn K cd21 "shortest_draw" = true)
    (k21 : PySem.W.keepIn K (.ref f21) = true)
    (a22 : PySem.W.nsIn K mainGlobals "ends_in" = some (some (.ref f22)))
    (l22 : K.lookup f22 = some ⟨oc22, od22, .func (PySem.W.fnOf "ends_in" "ends_in" (defArgs s_ends_in) (defBody s_ends_in) (defScope s_ends_in) .none kV22 dc22 pm22 an22 cd22 ct22), sl22⟩)
    (c22 : PySem.W.codeIn K cd22 "ends_in" = true)
    (k22 : PySem.W.keepIn K (.ref f22) = true)
    (a23 : PySem.W.nsIn K mainGlobals "shared_spans" = some (some (.ref f23)))
    (l23 : K.lookup f23 = some ⟨oc23, od23, .func (PySem.W.fnOf "shared_spans" "shared_spans" (defArgs s_shared_spans) (defBody s_shared_spans) (defScope s_shared_spans) .none kV23 dc23 pm23 an23 cd23 ct23), sl23⟩)
    (c23 : PySem.W.codeIn K cd23 "shared_spans" = true)
    (k23 : PySem.W.keepIn K (.ref f23) = true)
    (a24 : PySem.W.nsIn K mainGlobals "check_tables" = some (some (.ref f24)))
    (l24 : K.lookup f24 = some ⟨oc24, od24, .func (PySem.W.fnOf "check_tables" "check_tables" (defArgs s_check_tables) (defBody s_check_tables) (defScope s_check_tables) .none kV24 dc24 pm24 an24 cd24 ct24), sl24⟩)
    (c24 : PySem.W.codeIn K cd24 "check_tables" = true)
    (k24 : PySem.W.keepIn K (.ref f24) = true)
    (a25 : PySem.W.nsIn K mainGlobals "alike_given" = some (some (.ref f25)))
    (l25 : K.lookup f25 = some ⟨oc25, od25, .func (PySem.W.fnOf "alike_given" "alike_given" (defArgs s_alike_given) (defBody s_alike_given) (defScope s_alike_given) .none kV25 dc25 pm25 an25 cd25 ct25), sl25⟩)
    (c25 : PySem.W.codeIn K cd25 "alike_given" = true)
    (k25 : PySem.W.keepIn K (.ref f25) = true)
    (a26 : PySem.W.nsIn K mainGlobals "parted_spans" = some (some (.ref f26)))
    (l26 : K.lookup f26 = some ⟨oc26, od26, .func (PySem.W.fnOf "parted_spans" "parted_spans" (defArgs s_parted_spans) (defBody s_parted_spans) (defScope s_parted_spans) .none kV26 dc26 pm26 an26 cd26 ct26), sl26⟩)
    (c26 : PySem.W.codeIn K cd26 "parted_spans" = true)
    (k26 : PySem.W.keepIn K (.ref f26) = true)
    (a27 : PySem.W.nsIn K mainGlobals "_law_hash" = some (some (.ref f27)))
    (l27 : K.lookup f27 = some ⟨oc27, od27, .func (PySem.W.fnOf "_law_hash" "_law_hash" (defArgs s__law_hash) (defBody s__law_hash) (defScope s__law_hash) .none kV27 dc27 pm27 an27 cd27 ct27), sl27⟩)
    (c27 : PySem.W.codeIn K cd27 "_law_hash" = true)
    (k27 : PySem.W.keepIn K (.ref f27) = true)
    (a28 : PySem.W.nsIn K mainGlobals "_law_random" = some (some (.ref f28)))
    (l28 : K.lookup f28 = some ⟨oc28, od28, .func (PySem.W.fnOf "_law_random" "_law_random" (defArgs s__law_random) (defBody s__law_random) (defScope s__law_random) .none kV28 dc28 pm28 an28 cd28 ct28), sl28⟩)
    (c28 : PySem.W.codeIn K cd28 "_law_random" = true)
    (k28 : PySem.W.keepIn K (.ref f28) = true)
    (a29 : PySem.W.nsIn K mainGlobals "_law_cell" = some (some (.ref f29)))
    (l29 : K.lookup f29 = some ⟨oc29, od29, .func (PySem.W.fnOf "_law_cell" "_law_cell" (defArgs s__law_cell) (defBody s__law_cell) (defScope s__law_cell) .none kV29 dc29 pm29 an29 cd29 ct29), sl29⟩)
    (c29 : PySem.W.codeIn K cd29 "_law_cell" = true)
    (k29 : PySem.W.keepIn K (.ref f29) = true)
    (a30 : PySem.W.nsIn K mainGlobals "_law_generator" = some (some (.ref f30)))
    (l30 : K.lookup f30 = some ⟨oc30, od30, .func (PySem.W.fnOf "_law_generator" "_law_generator" (defArgs s__law_generator) (defBody s__law_generator) (defScope s__law_generator) .none kV30 dc30 pm30 an30 cd30 ct30), sl30⟩)
    (c30 : PySem.W.codeIn K cd30 "_law_generator" = true)
    (k30 : PySem.W.keepIn K (.ref f30) = true)
    (a31 : PySem.W.nsIn K mainGlobals "_law_pick" = some (some (.ref f31)))
    (l31 : K.lookup f31 = some ⟨oc31, od31, .func (PySem.W.fnOf "_law_pick" "_law_pick" (defArgs s__law_pick) (defBody s__law_pick) (defScope s__law_pick) .none kV31 dc31 pm31 an31 cd31 ct31), sl31⟩)
    (c31 : PySem.W.codeIn K cd31 "_law_pick" = true)
    (k31 : PySem.W.keepIn K (.ref f31) = true)
    (a32 : PySem.W.nsIn K mainGlobals "_law_same" = some (some (.ref f32)))
    (l32 : K.lookup f32 = some ⟨oc32, od32, .func (PySem.W.fnOf "_law_same" "_law_same" (defArgs s__law_same) (defBody s__law_same) (defScope s__law_same) .none kV32 dc32 pm32 an32 cd32 ct32), sl32⟩)
    (c32 : PySem.W.codeIn K cd32 "_law_same" = true)
    (k32 : PySem.W.keepIn K (.ref f32) = true)
    (a33 : PySem.W.nsIn K mainGlobals "_law_common" = some (some (.ref f33)))
    (l33 : K.lookup f33 = some ⟨oc33, od33, .func (PySem.W.fnOf "_law_common" "_law_common" (defArgs s__law_common) (defBody s__law_common) (defScope s__law_common) .none kV33 dc33 pm33 an33 cd33 ct33), sl33⟩)
    (c33 : PySem.W.codeIn K cd33 "_law_common" = true)
    (k33 : PySem.W.keepIn K (.ref f33) = true)
    (a34 : PySem.W.nsIn K mainGlobals "_law_odds" = some (some (.ref f34)))
    (l34 : K.lookup f34 = some ⟨oc34, od34, .func (PySem.W.fnOf "_law_odds" "_law_odds" (defArgs s__law_odds) (defBody s__law_odds) (defScope s__law_odds) .none kV34 dc34 pm34 an34 cd34 ct34), sl34⟩)
    (c34 : PySem.W.codeIn K cd34 "_law_odds" = true)
    (k34 : PySem.W.keepIn K (.ref f34) = true)
    (a35 : PySem.W.nsIn K mainGlobals "_law_sum" = some (some (.ref f35)))
    (l35 : K.lookup f35 = some ⟨oc35, od35, .func (PySem.W.fnOf "_law_sum" "_law_sum" (defArgs s__law_sum) (defBody s__law_sum) (defScope s__law_sum) .none kV35 dc35 pm35 an35 cd35 ct35), sl35⟩)
    (c35 : PySem.W.codeIn K cd35 "_law_sum" = true)
    (k35 : PySem.W.keepIn K (.ref f35) = true)
    (a36 : PySem.W.nsIn K mainGlobals "_law_less" = some (some (.ref f36)))
    (l36 : K.lookup f36 = some ⟨oc36, od36, .func (PySem.W.fnOf "_law_less" "_law_less" (defArgs s__law_less) (defBody s__law_less) (defScope s__law_less) .none kV36 dc36 pm36 an36 cd36 ct36), sl36⟩)
    (c36 : PySem.W.codeIn K cd36 "_law_less" = true)
    (k36 : PySem.W.keepIn K (.ref f36) = true)
    (a37 : PySem.W.nsIn K mainGlobals "_law_below" = some (some (.ref f37)))
    (l37 : K.lookup f37 = some ⟨oc37, od37, .func (PySem.W.fnOf "_law_below" "_law_below" (defArgs s__law_below) (defBody s__law_below) (defScope s__law_below) .none kV37 dc37 pm37 an37 cd37 ct37), sl37⟩)
    (c37 : PySem.W.codeIn K cd37 "_law_below" = true)
    (k37 : PySem.W.keepIn K (.ref f37) = true)
    (a38 : PySem.W.nsIn K mainGlobals "_law_table" = some (some (.ref f38)))
    (l38 : K.lookup f38 = some ⟨oc38, od38, .func (PySem.W.fnOf "_law_table" "_law_table" (defArgs s__law_table) (defBody s__law_table) (defScope s__law_table) .none kV38 dc38 pm38 an38 cd38 ct38), sl38⟩)
    (c38 : PySem.W.codeIn K cd38 "_law_table" = true)
    (k38 : PySem.W.keepIn K (.ref f38) = true)
    (a39 : PySem.W.nsIn K mainGlobals "_law_shortest" = some (some (.ref f39)))
    (l39 : K.lookup f39 = some ⟨oc39, od39, .func (PySem.W.fnOf "_law_shortest" "_law_shortest" (defArgs s__law_shortest) (defBody s__law_shortest) (defScope s__law_shortest) .none kV39 dc39 pm39 an39 cd39 ct39), sl39⟩)
    (c39 : PySem.W.codeIn K cd39 "_law_shortest" = true)
    (k39 : PySem.W.keepIn K (.ref f39) = true)
    (a40 : PySem.W.nsIn K mainGlobals "_law_power" = some (some (.ref f40)))
    (l40 : K.lookup f40 = some ⟨oc40, od40, .func (PySem.W.fnOf "_law_power" "_law_power" (defArgs s__law_power) (defBody s__law_power) (defScope s__law_power) .none kV40 dc40 pm40 an40 cd40 ct40), sl40⟩)
    (c40 : PySem.W.codeIn K cd40 "_law_power" = true)
    (k40 : PySem.W.keepIn K (.ref f40) = true)
    (a41 : PySem.W.nsIn K mainGlobals "_law_drawn_span" = some (some (.ref f41)))
    (l41 : K.lookup f41 = some ⟨oc41, od41, .func (PySem.W.fnOf "_law_drawn_span" "_law_drawn_span" (defArgs s__law_drawn_span) (defBody s__law_drawn_span) (defScope s__law_drawn_span) .none kV41 dc41 pm41 an41 cd41 ct41), sl41⟩)
    (c41 : PySem.W.codeIn K cd41 "_law_drawn_span" = true)
    (k41 : PySem.W.keepIn K (.ref f41) = true)
    (a42 : PySem.W.nsIn K mainGlobals "_law_short_right" = some (some (.ref f42)))
    (l42 : K.lookup f42 = some ⟨oc42, od42, .func (PySem.W.fnOf "_law_short_right" "_law_short_right" (defArgs s__law_short_right) (defBody s__law_short_right) (defScope s__law_short_right) .none kV42 dc42 pm42 an42 cd42 ct42), sl42⟩)
    (c42 : PySem.W.codeIn K cd42 "_law_short_right" = true)
    (k42 : PySem.W.keepIn K (.ref f42) = true)
    (a43 : PySem.W.nsIn K mainGlobals "_law_ends" = some (some (.ref f43)))
    (l43 : K.lookup f43 = some ⟨oc43, od43, .func (PySem.W.fnOf "_law_ends" "_law_ends" (defArgs s__law_ends) (defBody s__law_ends) (defScope s__law_ends) .none kV43 dc43 pm43 an43 cd43 ct43), sl43⟩)
    (c43 : PySem.W.codeIn K cd43 "_law_ends" = true)
    (k43 : PySem.W.keepIn K (.ref f43) = true)
    (a44 : PySem.W.nsIn K mainGlobals "_law_stretches" = some (some (.ref f44)))
    (l44 : K.lookup f44 = some ⟨oc44, od44, .func (PySem.W.fnOf "_law_stretches" "_law_stretches" (defArgs s__law_stretches) (defBody s__law_stretches) (defScope s__law_stretches) .none kV44 dc44 pm44 an44 cd44 ct44), sl44⟩)
    (c44 : PySem.W.codeIn K cd44 "_law_stretches" = true)
    (k44 : PySem.W.keepIn K (.ref f44) = true)
    (a45 : PySem.W.nsIn K mainGlobals "_law_parted" = some (some (.ref f45)))
    (l45 : K.lookup f45 = some ⟨oc45, od45, .func (PySem.W.fnOf "_law_parted" "_law_parted" (defArgs s__law_parted) (defBody s__law_parted) (defScope s__law_parted) .none kV45 dc45 pm45 an45 cd45 ct45), sl45⟩)
    (c45 : PySem.W.codeIn K cd45 "_law_parted" = true)
    (k45 : PySem.W.keepIn K (.ref f45) = true)
    (a46 : PySem.W.nsIn K mainGlobals "_law_two_right" = some (some (.ref f46)))
    (l46 : K.lookup f46 = some ⟨oc46, od46, .func (PySem.W.fnOf "_law_two_right" "_law_two_right" (defArgs s__law_two_right) (defBody s__law_two_right) (defScope s__law_two_right) .none kV46 dc46 pm46 an46 cd46 ct46), sl46⟩)
    (c46 : PySem.W.codeIn K cd46 "_law_two_right" = true)
    (k46 : PySem.W.keepIn K (.ref f46) = true)
    (a47 : PySem.W.nsIn K mainGlobals "law" = some (some (.ref f47)))
    (l47 : K.lookup f47 = some ⟨oc47, od47, .func (PySem.W.fnOf "law" "law" (defArgs s_law) (defBody s_law) (defScope s_law) .none kV47 dc47 pm47 an47 cd47 ct47), sl47⟩)
    (c47 : PySem.W.codeIn K cd47 "law" = true)
    (k47 : PySem.W.keepIn K (.ref f47) = true)
    (z_all : PySem.W.nsIn K mainGlobals "all" = some none)
    (z_bool : PySem.W.nsIn K mainGlobals "bool" = some none)
    (z_enumerate : PySem.W.nsIn K mainGlobals "enumerate" = some none)
    (z_int : PySem.W.nsIn K mainGlobals "int" = some none)
    (z_isinstance : PySem.W.nsIn K mainGlobals "isinstance" = some none)
    (z_len : PySem.W.nsIn K mainGlobals "len" = some none)
    (z_list : PySem.W.nsIn K mainGlobals "list" = some none)
    (z_max : PySem.W.nsIn K mainGlobals "max" = some none)
    (z_min : PySem.W.nsIn K mainGlobals "min" = some none)
    (z_range : PySem.W.nsIn K mainGlobals "range" = some none)
    (z_repr : PySem.W.nsIn K mainGlobals "repr" = some none)
    (z_str : PySem.W.nsIn K mainGlobals "str" = some none)
    (z_sum : PySem.W.nsIn K mainGlobals "sum" = some none)
    (z_tuple : PySem.W.nsIn K mainGlobals "tuple" = some none)
    (z_zip : PySem.W.nsIn K mainGlobals "zip" = some none) : ∃ T : Tx K mg, ∃ (kV dc pm : Value) (an : Option Addr) (cd ct : Value), T.d_law = PySem.W.fnOf "law" "law" (defArgs s_law) (defBody s_law) (defScope s_law) .none kV dc pm an cd ct := by
  have F1 := funD_mk (st := s_is_count) (dvs := [V.int 0]) l1 c1 k1 t1 (by simp) (.cons (show RelV _ _ from ⟨_, rfl⟩) (.nil))
  have F2 := fun_mk (st := s_divisor) l2 c2 k2
  have F3 := fun_mk (st := s_is_odds) l3 c3 k3
  have F4 := fun_mk (st := s_by_lowest) l4 c4 k4
  have F5 := fun_mk (st := s_odds_of) l5 c5 k5
  have F6 := fun_mk (st := s_put_together) l6 c6 k6
  have F7 := fun_mk (st := s_is_below) l7 c7 k7
  have F8 := fun_mk (st := s_total) l8 c8 k8
  have F9 := fun_mk (st := s_are_counts) l9 c9 k9
  have F10 := fun_mk (st := s_is_table) l10 c10 k10
  have F11 := fun_mk (st := s_look_at_table) l11 c11 k11
  have F12 := fun_mk (st := s_look_at_two) l12 c12 k12
  have F13 := fun_mk (st := s_odds_in) l13 c13 k13
  have F14 := fun_mk (st := s_common_odds) l14 c14 k14
  have F15 := fun_mk (st := s_overlap) l15 c15 k15
  have F16 := fun_mk (st := s_is_draw) l16 c16 k16
  have F17 := fun_mk (st := s_check_table) l17 c17 k17
  have F18 := fun_mk (st := s_check_draw) l18 c18 k18
  have F19 := fun_mk (st := s_place_given) l19 c19 k19
  have F20 := fun_mk (st := s_place_drawn) l20 c20 k20
  have F21 := fun_mk (st := s_shortest_draw) l21 c21 k21
  have F22 := fun_mk (st := s_ends_in) l22 c22 k22
  have F23 := fun_mk (st := s_shared_spans) l23 c23 k23
  have F24 := fun_mk (st := s_check_tables) l24 c24 k24
  have F25 := fun_mk (st := s_alike_given) l25 c25 k25
  have F26 := fun_mk (st := s_parted_spans) l26 c26 k26
  have F27 := fun_mk (st := s__law_hash) l27 c27 k27
  have F28 := fun_mk (st := s__law_random) l28 c28 k28
  have F29 := fun_mk (st := s__law_cell) l29 c29 k29
  have F30 := fun_mk (st := s__law_generator) l30 c30 k30
  have F31 := fun_mk (st := s__law_pick) l31 c31 k31
  have F32 := fun_mk (st := s__law_same) l32 c32 k32
  have F33 := fun_mk (st := s__law_common) l33 c33 k33
  have F34 := fun_mk (st := s__law_odds) l34 c34 k34
  have F35 := fun_mk (st := s__law_sum) l35 c35 k35
  have F36 := fun_mk (st := s__law_less) l36 c36 k36
  have F37 := fun_mk (st := s__law_below) l37 c37 k37
  have F38 := fun_mk (st := s__law_table) l38 c38 k38
  have F39 := fun_mk (st := s__law_shortest) l39 c39 k39
  have F40 := fun_mk (st := s__law_power) l40 c40 k40
  have F41 := fun_mk (st := s__law_drawn_span) l41 c41 k41
  have F42 := fun_mk (st := s__law_short_right) l42 c42 k42
  have F43 := fun_mk (st := s__law_ends) l43 c43 k43
  have F44 := fun_mk (st := s__law_stretches) l44 c44 k44
  have F45 := fun_mk (st := s__law_parted) l45 c45 k45
  have F46 := fun_mk (st := s__law_two_right) l46 c46 k46
  have F47 := fun_mk (st := s_law) l47 c47 k47
  exact ⟨{
    f_is_count := f1
    d_is_count := _
    F_is_count := F1
    g_is_count := PySem.W.mg_of X G a1
    ds1_is_count := [.int 0 tk1_0]
    v1_is_count := .cons (show RelV _ _ from ⟨_, rfl⟩) (.nil)
    b1_is_count := funD_b (T := T1) (its := [.int 0 tk1_0]) t1 1 rfl rfl fun us hl => match us, hl with | [_], _ => ⟨_, rfl, rfl⟩
    b2_is_count := funD_b (T := T1) (its := [.int 0 tk1_0]) t1 2 rfl rfl fun us hl => match us, hl with | [_, _], _ => ⟨_, rfl, rfl⟩
    f_divisor := f2
    d_divisor := _
    F_divisor := F2
    g_divisor := PySem.W.mg_of X G a2
    b2_divisor := fun_b F2 fun _ _ _ _ _ _ us hl => match us, hl with | [_, _], _ => rfl
    f_is_odds := f3
    d_is_odds := _
    F_is_odds := F3
    g_is_odds := PySem.W.mg_of X G a3
    b1_is_odds := fun_b F3 fun _ _ _ _ _ _ us hl => match us, hl with | [_], _ => rfl
    f_by_lowest := f4
    d_by_lowest := _
    F_by_lowest := F4
    g_by_lowest := PySem.W.mg_of X G a4
    b2_by_lowest := fun_b F4 fun _ _ _ _ _ _ us hl => match us, hl with | [_, _], _ => rfl
    f_odds_of := f5
    d_odds_of := _
    F_odds_of := F5
    g_odds_of := PySem.W.mg_of X G a5
    b2_odds_of := fun_b F5 fun _ _ _ _ _ _ us hl => match us, hl with | [_, _], _ => rfl
    f_put_together := f6
    d_put_together := _
    F_put_together := F6
    g_put_together := PySem.W.mg_of X G a6
    b2_put_together := fun_b F6 fun _ _ _ _ _ _ us hl => match us, hl with | [_, _], _ => rfl
    f_is_below := f7
    d_is_below := _
    F_is_below := F7
    g_is_below := PySem.W.mg_of X G a7
    b2_is_below := fun_b F7 fun _ _ _ _ _ _ us hl => match us, hl with | [_, _], _ => rfl
    f_total := f8
    d_total := _
    F_total := F8
    g_total := PySem.W.mg_of X G a8
    b1_total := fun_b F8 fun _ _ _ _ _ _ us hl => match us, hl with | [_], _ => rfl
    f_are_counts := f9
    d_are_counts := _
    F_are_counts := F9
    g_are_counts := PySem.W.mg_of X G a9
    b1_are_counts := fun_b F9 fun _ _ _ _ _ _ us hl => match us, hl with | [_], _ => rfl
    f_is_table := f10
    d_is_table := _
    F_is_table := F10
    g_is_table := PySem.W.mg_of X G a10
    b1_is_table := fun_b F10 fun _ _ _ _ _ _ us hl => match us, hl with | [_], _ => rfl
    f_look_at_table := f11
    d_look_at_table := _
    F_look_at_table := F11
    g_look_at_table := PySem.W.mg_of X G a11
    b1_look_at_table := fun_b F11 fun _ _ _ _ _ _ us hl => match us, hl with | [_], _ => rfl
    f_look_at_two := f12
    d_look_at_two := _
    F_look_at_two := F12
    g_look_at_two := PySem.W.mg_of X G a12
    b2_look_at_two := fun_b F12 fun _ _ _ _ _ _ us hl => match us, hl with | [_, _], _ => rfl
    f_odds_in := f13
    d_odds_in := _
    F_odds_in := F13
    g_odds_in := PySem.W.mg_of X G a13
    b1_odds_in := fun_b F13 fun _ _ _ _ _ _ us hl => match us, hl with | [_], _ => rfl
    f_common_odds := f14
    d_common_odds := _
    F_common_odds := F14
    g_common_odds := PySem.W.mg_of X G a14
    b2_common_odds := fun_b F14 fun _ _ _ _ _ _ us hl => match us, hl with | [_, _], _ => rfl
    f_overlap := f15
    d_overlap := _
    F_overlap := F15
    g_overlap := PySem.W.mg_of X G a15
    b2_overlap := fun_b F15 fun _ _ _ _ _ _ us hl => match us, hl with | [_, _], _ => rfl
    f_is_draw := f16
    d_is_draw := _
    F_is_draw := F16
    g_is_draw := PySem.W.mg_of X G a16
    b1_is_draw := fun_b F16 fun _ _ _ _ _ _ us hl => match us, hl with | [_], _ => rfl
    f_check_table := f17
    d_check_table := _
    F_check_table := F17
    g_check_table := PySem.W.mg_of X G a17
    b1_check_table := fun_b F17 fun _ _ _ _ _ _ us hl => match us, hl with | [_], _ => rfl
    f_check_draw := f18
    d_check_draw := _
    F_check_draw := F18
    g_check_draw := PySem.W.mg_of X G a18
    b1_check_draw := fun_b F18 fun _ _ _ _ _ _ us hl => match us, hl with | [_], _ => rfl
    f_place_given := f19
    d_place_given := _
    F_place_given := F19
    g_place_given := PySem.W.mg_of X G a19
    b2_place_given := fun_b F19 fun _ _ _ _ _ _ us hl => match us, hl with | [_, _], _ => rfl
    f_place_drawn := f20
    d_place_drawn := _
    F_place_drawn := F20
    g_place_drawn := PySem.W.mg_of X G a20
    b2_place_drawn := fun_b F20 fun _ _ _ _ _ _ us hl => match us, hl with | [_, _], _ => rfl
    f_shortest_draw := f21
    d_shortest_draw := _
    F_shortest_draw := F21
    g_shortest_draw := PySem.W.mg_of X G a21
    k0_high_low_shortest_draw := fun_kb F21 fun _ _ _ _ _ _ us ws h1 h2 => match us, ws, h1, h2 with | [], [_, _], _, _ => rfl
    b2_shortest_draw := fun_b F21 fun _ _ _ _ _ _ us hl => match us, hl with | [_, _], _ => rfl
    f_ends_in := f22
    d_ends_in := _
    F_ends_in := F22
    g_ends_in := PySem.W.mg_of X G a22
    b2_ends_in := fun_b F22 fun _ _ _ _ _ _ us hl => match us, hl with | [_, _], _ => rfl
    f_shared_spans := f23
    d_shared_spans := _
    F_shared_spans := F23
    g_shared_spans := PySem.W.mg_of X G a23
    b2_shared_spans := fun_b F23 fun _ _ _ _ _ _ us hl => match us, hl with | [_, _], _ => rfl
    f_check_tables := f24
    d_check_tables := _
    F_check_tables := F24
    g_check_tables := PySem.W.mg_of X G a24
    b2_check_tables := fun_b F24 fun _ _ _ _ _ _ us hl => match us, hl with | [_, _], _ => rfl
    f_alike_given := f25
    d_alike_given := _
    F_alike_given := F25
    g_alike_given := PySem.W.mg_of X G a25
    k0_other_one_alike_given := fun_kb F25 fun _ _ _ _ _ _ us ws h1 h2 => match us, ws, h1, h2 with | [], [_, _], _, _ => rfl
    b2_alike_given := fun_b F25 fun _ _ _ _ _ _ us hl => match us, hl with | [_, _], _ => rfl
    f_parted_spans := f26
    d_parted_spans := _
    F_parted_spans := F26
    g_parted_spans := PySem.W.mg_of X G a26
    k0_other_one_parted_spans := fun_kb F26 fun _ _ _ _ _ _ us ws h1 h2 => match us, ws, h1, h2 with | [], [_, _], _, _ => rfl
    b2_parted_spans := fun_b F26 fun _ _ _ _ _ _ us hl => match us, hl with | [_, _], _ => rfl
    f__law_hash := f27
    d__law_hash := _
    F__law_hash := F27
    g__law_hash := PySem.W.mg_of X G a27
    b2__law_hash := fun_b F27 fun _ _ _ _ _ _ us hl => match us, hl with | [_, _], _ => rfl
    f__law_random := f28
    d__law_random := _
    F__law_random := F28
    g__law_random := PySem.W.mg_of X G a28
    b2__law_random := fun_b F28 fun _ _ _ _ _ _ us hl => match us, hl with | [_, _], _ => rfl
    f__law_cell := f29
    d__law_cell := _
    F__law_cell := F29
    g__law_cell := PySem.W.mg_of X G a29
    b2__law_cell := fun_b F29 fun _ _ _ _ _ _ us hl => match us, hl with | [_, _], _ => rfl
    f__law_generator := f30
    d__law_generator := _
    F__law_generator := F30
    g__law_generator := PySem.W.mg_of X G a30
    b2__law_generator := fun_b F30 fun _ _ _ _ _ _ us hl => match us, hl with | [_, _], _ => rfl
    f__law_pick := f31
    d__law_pick := _
    F__law_pick := F31
    g__law_pick := PySem.W.mg_of X G a31
    b2__law_pick := fun_b F31 fun _ _ _ _ _ _ us hl => match us, hl with | [_, _], _ => rfl
    f__law_same := f32
    d__law_same := _
    F__law_same := F32
    g__law_same := PySem.W.mg_of X G a32
    b2__law_same := fun_b F32 fun _ _ _ _ _ _ us hl => match us, hl with | [_, _], _ => rfl
    f__law_common := f33
    d__law_common := _
    F__law_common := F33
    g__law_common := PySem.W.mg_of X G a33
    b2__law_common := fun_b F33 fun _ _ _ _ _ _ us hl => match us, hl with | [_, _], _ => rfl
    f__law_odds := f34
    d__law_odds := _
    F__law_odds := F34
    g__law_odds := PySem.W.mg_of X G a34
    b2__law_odds := fun_b F34 fun _ _ _ _ _ _ us hl => match us, hl with | [_, _], _ => rfl
    f__law_sum := f35
    d__law_sum := _
    F__law_sum := F35
    g__law_sum := PySem.W.mg_of X G a35
    b1__law_sum := fun_b F35 fun _ _ _ _ _ _ us hl => match us, hl with | [_], _ => rfl
    f__law_less := f36
    d__law_less := _
    F__law_less := F36
    g__law_less := PySem.W.mg_of X G a36
    b2__law_less := fun_b F36 fun _ _ _ _ _ _ us hl => match us, hl with | [_, _], _ => rfl
    f__law_below := f37
    d__law_below := _
    F__law_below := F37
    g__law_below := PySem.W.mg_of X G a37
    b2__law_below := fun_b F37 fun _ _ _ _ _ _ us hl => match us, hl with | [_, _], _ => rfl
    f__law_table := f38
    d__law_table := _
    F__law_table := F38
    g__law_table := PySem.W.mg_of X G a38
    b2__law_table := fun_b F38 fun _ _ _ _ _ _ us hl => match us, hl with | [_, _], _ => rfl
    f__law_shortest := f39
    d__law_shortest := _
    F__law_shortest := F39
    g__law_shortest := PySem.W.mg_of X G a39
    b2__law_shortest := fun_b F39 fun _ _ _ _ _ _ us hl => match us, hl with | [_, _], _ => rfl
    f__law_power := f40
    d__law_power := _
    F__law_power := F40
    g__law_power := PySem.W.mg_of X G a40
    b1__law_power := fun_b F40 fun _ _ _ _ _ _ us hl => match us, hl with | [_], _ => rfl
    f__law_drawn_span := f41
    d__law_drawn_span := _
    F__law_drawn_span := F41
    g__law_drawn_span := PySem.W.mg_of X G a41
    b1__law_drawn_span := fun_b F41 fun _ _ _ _ _ _ us hl => match us, hl with | [_], _ => rfl
    f__law_short_right := f42
    d__law_short_right := _
    F__law_short_right := F42
    g__law_short_right := PySem.W.mg_of X G a42
    b1__law_short_right := fun_b F42 fun _ _ _ _ _ _ us hl => match us, hl with | [_], _ => rfl
    f__law_ends := f43
    d__law_ends := _
    F__law_ends := F43
    g__law_ends := PySem.W.mg_of X G a43
    b1__law_ends := fun_b F43 fun _ _ _ _ _ _ us hl => match us, hl with | [_], _ => rfl
    f__law_stretches := f44
    d__law_stretches := _
    F__law_stretches := F44
    g__law_stretches := PySem.W.mg_of X G a44
    b2__law_stretches := fun_b F44 fun _ _ _ _ _ _ us hl => match us, hl with | [_, _], _ => rfl
    f__law_parted := f45
    d__law_parted := _
    F__law_parted := F45
    g__law_parted := PySem.W.mg_of X G a45
    b1__law_parted := fun_b F45 fun _ _ _ _ _ _ us hl => match us, hl with | [_], _ => rfl
    f__law_two_right := f46
    d__law_two_right := _
    F__law_two_right := F46
    g__law_two_right := PySem.W.mg_of X G a46
    b2__law_two_right := fun_b F46 fun _ _ _ _ _ _ us hl => match us, hl with | [_, _], _ => rfl
    f_law := f47
    d_law := _
    F_law := F47
    g_law := PySem.W.mg_of X G a47
    n_all := PySem.W.mg_none_of X G z_all
    n_bool := PySem.W.mg_none_of X G z_bool
    n_enumerate := PySem.W.mg_none_of X G z_enumerate
    n_int := PySem.W.mg_none_of X G z_int
    n_isinstance := PySem.W.mg_none_of X G z_isinstance
    n_len := PySem.W.mg_none_of X G z_len
    n_list := PySem.W.mg_none_of X G z_list
    n_max := PySem.W.mg_none_of X G z_max
    n_min := PySem.W.mg_none_of X G z_min
    n_range := PySem.W.mg_none_of X G z_range
    n_repr := PySem.W.mg_none_of X G z_repr
    n_str := PySem.W.mg_none_of X G z_str
    n_sum := PySem.W.mg_none_of X G z_sum
    n_tuple := PySem.W.mg_none_of X G z_tuple
    n_zip := PySem.W.mg_none_of X G z_zip }, _, _, _, _, _, _, rfl⟩
end K30
end

set_option Elab.async false
set_option linter.all false
namespace K30
open PySem PySem.Spec PyProof.Rows L2 DL
theorem walk {l : PySem.W.OpenLaw} {q : Program} {loose : List Str} {XP : (Str → Option Value) → Heap → Prop} {YP : World → Heap → Prop} {d : DefRec} {K : Params → PySem.W.Frag} (hn : l.most = some 63) (hdf : d.params.defaults = []) (hname : d.name = "law")
    (hY : ∀ (w : World) (h : Heap), YP w h → (K w.params).In h)
    (F : ∀ (w : World) (mg : Str → Option Value) (h : Heap), (K w.params).In h → h.Ns mainGlobals mg → ∃ T : Tx (K w.params) mg, ∃ (kV dc pm : Value) (an : Option Addr) (cd ct : Value), T.d_law = PySem.W.fnOf "law" "law" (defArgs s_law) (defBody s_law) (defScope s_law) .none kV dc pm an cd ct) :
    PySem.W.WalkO q loose XP YP l.row.toRowW d [] (fun f vs => PySem.call f vs) := by
  refine walkG (n := 63) (lv := 10) (x := "script") (sp := fun K => spD K 1 m_law) hn (by decide) hdf ⟨rfl, by decide, by decide⟩ hY (fun w mg fa h hK hG hfa => ?_) (fun K H a ns hl only sq => ?_)
  · obtain ⟨T, kV, dc, pm, an, cd, ct, hT⟩ := F w mg h hK hG
    rw [hname] at hfa
    have e := hfa.symm.trans T.g_law
    cases e
    exact ⟨T.d_law, fun s u => by rw [hT]; exact .of_eq rfl, fun base _ _ => ok_law T⟩
  · exact law_want only sq hl law_true
end K30
open PySem PySem.W PyProof.Rows in
set_option maxRecDepth 100000 in
set_option maxHeartbeats 0 in
theorem PySem.Challenge.cw_saidahead_k30_whole_shortest_draws_and_t_holds : PySem.Challenge.rw_saidahead_k30_whole_shortest_draws_and_t.Holds := by
  w_on; o_law; k_head; (case hw => w_witness2)
  k_fill
  refine K30.walk (l := PySem.Challenge.rw_saidahead_k30_whole_shortest_draws_and_t) rfl rfl rfl (fun w h Y => PySem.W.kIn_of Y) ?F
  case F =>
    intro w mg h KX G
    refine' K30.all_mk KX G ?a1 ?l1 ?t1 ?c1 ?k1 ?a2 ?l2 ?c2 ?k2 ?a3 ?l3 ?c3 ?k3 ?a4 ?l4 ?c4 ?k4 ?a5 ?l5 ?c5 ?k5 ?a6 ?l6 ?c6 ?k6 ?a7 ?l7 ?c7 ?k7 ?a8 ?l8 ?c8 ?k8 ?a9 ?l9 ?c9 ?k9 ?a10 ?l10 ?c10 ?k10 ?a11 ?l11 ?c11 ?k11 ?a12 ?l12 ?c12 ?k12 ?a13 ?l13 ?c13 ?k13 ?a14 ?l14 ?c14 ?k14 ?a15 ?l15 ?c15 ?k15 ?a16 ?l16 ?c16 ?k16 ?a17 ?l17 ?c17 ?k17 ?a18 ?l18 ?c18 ?k18 ?a19 ?l19 ?c19 ?k19 ?a20 ?l20 ?c20 ?k20 ?a21 ?l21 ?c21 ?k21 ?a22 ?l22 ?c22 ?k22 ?a23 ?l23 ?c23 ?k23 ?a24 ?l24 ?c24 ?k24 ?a25 ?l25 ?c25 ?k25 ?a26 ?l26 ?c26 ?k26 ?a27 ?l27 ?c27 ?k27 ?a28 ?l28 ?c28 ?k28 ?a29 ?l29 ?c29 ?k29 ?a30 ?l30 ?c30 ?k30 ?a31 ?l31 ?c31 ?k31 ?a32 ?l32 ?c32 ?k32 ?a33 ?l33 ?c33 ?k33 ?a34 ?l34 ?c34 ?k34 ?a35 ?l35 ?c35 ?k35 ?a36 ?l36 ?c36 ?k36 ?a37 ?l37 ?c37 ?k37 ?a38 ?l38 ?c38 ?k38 ?a39 ?l39 ?c39 ?k39 ?a40 ?l40 ?c40 ?k40 ?a41 ?l41 ?c41 ?k41 ?a42 ?l42 ?c42 ?k42 ?a43 ?l43 ?c43 ?k43 ?a44 ?l44 ?c44 ?k44 ?a45 ?l45 ?c45 ?k45 ?a46 ?l46 ?c46 ?k46 ?a47 ?l47 ?c47 ?k47 ?z_all ?z_bool ?z_enumerate ?z_int ?z_isinstance ?z_len ?z_list ?z_max ?z_min ?z_range ?z_repr ?z_str ?z_sum ?z_tuple ?z_zip
    (case a1 => k_is)
    (case l1 => k_is)
    (case t1 => k_is)
    (case c1 => k_is)
    (case k1 => k_is)
    (case a2 => k_is)
    (case l2 => k_is)
    (case c2 => k_is)
    (case k2 => k_is)
    (case a3 => k_is)
    (case l3 => k_is)
    (case c3 => k_is)
    (case k3 => k_is)
    (case a4 => k_is)
    (case l4 => k_is)
    (case c4 => k_is)
    (case k4 => k_is)
    (case a5 => k_is)
    (case l5 => k_is)
    (case c5 => k_is)
    (case k5 => k_is)
    (case a6 => k_is)
    (case l6 => k_is)
    (case c6 => k_is)
    (case k6 => k_is)
    (case a7 => k_is)
    (case l7 => k_is)
    (case c7 => k_is)
    (case k7 => k_is)
    (case a8 => k_is)
    (case l8 => k_is)
    (case c8 => k_is)
    (case k8 => k_is)
    (case a9 => k_is)
    (case l9 => k_is)
    (case c9 => k_is)
    (case k9 => k_is)
    (case a10 => k_is)
    (case l10 => k_is)
    (case c10 => k_is)
    (case k10 => k_is)
    (case a11 => k_is)
    (case l11 => k_is)
    (case c11 => k_is)
    (case k11 => k_is)
    (case a12 => k_is)
    (case l12 => k_is)
    (case c12 => k_is)
    (case k12 => k_is)
    (case a13 => k_is)
    (case l13 => k_is)
    (case c13 => k_is)
    (case k13 => k_is)
    (case a14 => k_is)
    (case l14 => k_is)
    (case c14 => k_is)
    (case k14 => k_is)
    (case a15 => k_is)
    (case l15 => k_is)
    (case c15 => k_is)
    (case k15 => k_is)
    (case a16 => k_is)
    (case l16 => k_is)
    (case c16 => k_is)
    (case k16 => k_is)
    (case a17 => k_is)
    (case l17 => k_is)
    (case c17 => k_is)
    (case k17 => k_is)
    (case a18 => k_is)
    (case l18 => k_is)
    (case c18 => k_is)
    (case k18 => k_is)
    (case a19 => k_is)
    (case l19 => k_is)
    (case c19 => k_is)
    (case k19 => k_is)
    (case a20 => k_is)
    (case l20 => k_is)
    (case c20 => k_is)
    (case k20 => k_is)
    (case a21 => k_is)
    (case l21 => k_is)
    (case c21 => k_is)
    (case k21 => k_is)
    (case a22 => k_is)
    (case l22 => k_is)
    (case c22 => k_is)
    (case k22 => k_is)
    (case a23 => k_is)
    (case l23 => k_is)
    (case c23 => k_is)
    (case k23 => k_is)
    (case a24 => k_is)
    (case l24 => k_is)
    (case c24 => k_is)
    (case k24 => k_is)
    (case a25 => k_is)
    (case l25 => k_is)
    (case c25 => k_is)
    (case k25 => k_is)
    (case a26 => k_is)
    (case l26 => k_is)
    (case c26 => k_is)
    (case k26 => k_is)
    (case a27 => k_is)
    (case l27 => k_is)
    (case c27 => k_is)
    (case k27 => k_is)
    (case a28 => k_is)
    (case l28 => k_is)
    (case c28 => k_is)
    (case k28 => k_is)
    (case a29 => k_is)
    (case l29 => k_is)
    (case c29 => k_is)
    (case k29 => k_is)
    (case a30 => k_is)
    (case l30 => k_is)
    (case c30 => k_is)
    (case k30 => k_is)
    (case a31 => k_is)
    (case l31 => k_is)
    (case c31 => k_is)
    (case k31 => k_is)
    (case a32 => k_is)
    (case l32 => k_is)
    (case c32 => k_is)
    (case k32 => k_is)
    (case a33 => k_is)
    (case l33 => k_is)
    (case c33 => k_is)
    (case k33 => k_is)
    (case a34 => k_is)
    (case l34 => k_is)
    (case c34 => k_is)
    (case k34 => k_is)
    (case a35 => k_is)
    (case l35 => k_is)
    (case c35 => k_is)
    (case k35 => k_is)
    (case a36 => k_is)
    (case l36 => k_is)
    (case c36 => k_is)
    (case k36 => k_is)
    (case a37 => k_is)
    (case l37 => k_is)
    (case c37 => k_is)
    (case k37 => k_is)
    (case a38 => k_is)
    (case l38 => k_is)
    (case c38 => k_is)
    (case k38 => k_is)
    (case a39 => k_is)
    (case l39 => k_is)
    (case c39 => k_is)
    (case k39 => k_is)
    (case a40 => k_is)
    (case l40 => k_is)
    (case c40 => k_is)
    (case k40 => k_is)
    (case a41 => k_is)
    (case l41 => k_is)
    (case c41 => k_is)
    (case k41 => k_is)
    (case a42 => k_is)
    (case l42 => k_is)
    (case c42 => k_is)
    (case k42 => k_is)
    (case a43 => k_is)
    (case l43 => k_is)
    (case c43 => k_is)
    (case k43 => k_is)
    (case a44 => k_is)
    (case l44 => k_is)
    (case c44 => k_is)
    (case k44 => k_is)
    (case a45 => k_is)
    (case l45 => k_is)
    (case c45 => k_is)
    (case k45 => k_is)
    (case a46 => k_is)
    (case l46 => k_is)
    (case c46 => k_is)
    (case k46 => k_is)
    (case a47 => k_is)
    (case l47 => k_is)
    (case c47 => k_is)
    (case k47 => k_is)
    (case z_all => k_is)
    (case z_bool => k_is)
    (case z_enumerate => k_is)
    (case z_int => k_is)
    (case z_isinstance => k_is)
    (case z_len => k_is)
    (case z_list => k_is)
    (case z_max => k_is)
    (case z_min => k_is)
    (case z_range => k_is)
    (case z_repr => k_is)
    (case z_str => k_is)
    (case z_sum => k_is)
    (case z_tuple => k_is)
    (case z_zip => k_is)
