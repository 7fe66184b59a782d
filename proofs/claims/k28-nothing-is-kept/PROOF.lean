import PyProof.Rows.All
import HandS.Base
import HandS.Call
import HandS.CallLocal
import HandS.Codes
import HandS.Comp
import HandS.Conv
import HandS.Deep
import HandS.EndTab
import HandS.Ends
import HandS.Exc
import HandS.ExcIs
import HandS.ExcOwn
import HandS.Flow
import HandS.IsInst
import HandS.Iter
import HandS.Lambda
import HandS.List
import HandS.Nested
import HandS.SetFor
import HandS.SortInts
import HandS.SortKw
import HandS.Strs
import HandS.Style
import HandS.SuiteRaise
import HandS.Text
import HandS.TryOnly
import HandS.TupAny
import HandS.Words
import HandS.WordsExc
import HandS.WordsList
import HandS.Zip
import KE.DatumOrd
import KE.GoesComp
import KE.GoesMore
import KE.GoesRaise
import KE.KRevSl
import KE.KTupSum
import OpenK.AllK
import PyProof.Rows.SetFrom
import PySem.Challenge.RW_coinyard_k28_nothing_is_kept
import PySem.Str
import Wide.All
import Wide.FinOn
set_option Elab.async false
set_option linter.all false
set_option maxRecDepth 100000
set_option maxHeartbeats 4000000
/-! GMa: the pure mirror layer: data, results, slots, combinators. No program in sight. -/
namespace GM
open PySem

inductive D where
  | non | bl (b : Bool) | int (i : Int) | str (x : Str) | tup (ds : List D) | lst (ds : List D) | scr (ns : List Int) | fn (t : Nat) (ds : List D)

inductive Rs (α : Type) where
  | ok (a : α) | ex (c : String) | bad
def Rs.bind {α β : Type} (x : Rs α) (f : α → Rs β) : Rs β := match x with
  | .ok a => f a
  | .ex c => .ex c
  | .bad => .bad
def Rs.map {α β : Type} (f : α → β) (x : Rs α) : Rs β := match x with
  | .ok a => .ok (f a)
  | .ex c => .ex c
  | .bad => .bad
@[simp] theorem Rs.bind_ok {α β : Type} (a : α) (f : α → Rs β) : Rs.bind (.ok a) f = f a := Eq.trans rfl rfl
@[simp] theorem Rs.bind_ex {α β : Type} (c : String) (f : α → Rs β) : Rs.bind (.ex c) f = .ex c := Eq.trans rfl rfl
@[simp] theorem Rs.bind_bad {α β : Type} (f : α → Rs β) : Rs.bind .bad f = .bad := Eq.trans rfl rfl
@[simp] theorem Rs.map_ok {α β : Type} (f : α → β) (a : α) : Rs.map f (.ok a) = .ok (f a) := Eq.trans rfl rfl
@[simp] theorem Rs.map_ex {α β : Type} (f : α → β) (c : String) : Rs.map f (.ex c) = .ex c := Eq.trans rfl rfl
@[simp] theorem Rs.map_bad {α β : Type} (f : α → β) : Rs.map f .bad = .bad := Eq.trans rfl rfl
/-- within a comprehension nothing may be raised -/
def Rs.calm {α : Type} : Rs α → Rs α
  | .ok a => .ok a
  | _ => .bad
@[simp] theorem Rs.calm_ok {α : Type} (a : α) : Rs.calm (.ok a) = .ok a := Eq.trans rfl rfl

inductive SV where
  | no | imm (d : D) | own (ds : List D)
abbrev Env := List SV

inductive So where
  | nx (r : Env) | rt (d : D) | rn (ds : List D) | ex (c : String) (r : Env) | bk (r : Env) | bad
inductive Ro where
  | rt (d : D) | rn (ds : List D) | ex (c : String) | bad

/-- lists are at most so long -/
def lim : Nat := 10000000
def dInts (ns : List Int) : List D := ns.map D.int
def dNats (ns : List Nat) : List D := ns.map fun (n : Nat) => D.int (n : Int)

mutual
/-- no list within -/
def noL : D → Bool
  | .tup ds => noLs ds
  | .lst _ => false
  | .fn _ ds => noLs ds
  | _ => true
def noLs : List D → Bool
  | [] => true
  | d :: ds => noL d && noLs ds
end

abbrev Ee := Env → Rs D
abbrev En := Env → Rs (List D)
abbrev Et := Env → Rs Bool
abbrev Es := Env → So
abbrev Tg := D → Env → Rs Env

/-! ### expressions -/
def vI (i : Nat) : Ee := fun r => match r[i]? with
  | some (.imm d) => .ok d
  | _ => .bad
def vO (i : Nat) : Ee := fun r => match r[i]? with
  | some (.own ds) => .ok (.lst ds)
  | _ => .bad
def cst (d : D) : Ee := fun _ => .ok d
def op1 (g : D → Rs D) (a : Ee) : Ee := fun r => (a r).bind g
def op2 (g : D → D → Rs D) (a b : Ee) : Ee := fun r => (a r).bind fun x => (b r).bind fun y => g x y
def toE (a : En) : Ee := fun r => (a r).map D.lst

def gI (f : Int → Int → D) (x y : D) : Rs D := match x, y with
  | .int i, .int j => .ok (f i j)
  | _, _ => .bad
def gAdd := gI fun i j => .int (i + j)
def gSub := gI fun i j => .int (i - j)
def gLt := gI fun i j => .bl (decide (i < j))
def gLe := gI fun i j => .bl (decide (i ≤ j))
def gGt := gI fun i j => .bl (decide (j < i))
def gGe := gI fun i j => .bl (decide (j ≤ i))
def big64 : Int := 18446744073709551616
def gMul (x y : D) : Rs D := match x, y with
  | .int i, .int j => if (-big64 < i ∧ i < big64) ∨ (-big64 < j ∧ j < big64) then .ok (.int (i * j)) else .bad
  | _, _ => .bad
def gMod (x y : D) : Rs D := match x, y with
  | .int i, .int j => if 0 < j then .ok (.int (i % j)) else .bad
  | _, _ => .bad
def gDiv (x y : D) : Rs D := match x, y with
  | .int i, .int j => if 0 < j ∧ j < 1073741824 then .ok (.int (i / j)) else .bad
  | _, _ => .bad
def gNeg (x : D) : Rs D := match x with
  | .int i => .ok (.int (-i))
  | _ => .bad
def isNon : D → Bool
  | .non => true
  | _ => false
def gIsN (x : D) : Rs D := .ok (.bl (isNon x))
def gNotN (x : D) : Rs D := .ok (.bl (!isNon x))
/-- a written-out item -/
def ixN (n : Nat) (i : Int) : Option Nat := if 0 ≤ i then (if i < n then some i.toNat else none) else if -(n : Int) ≤ i then some (i + n).toNat else none
def atI {α : Type} (xs : List α) (i : Int) : Option α := (ixN xs.length i).bind fun j => xs[j]?
def ofO : Option D → Rs D
  | some d => .ok d
  | none => .bad
def gIx (x y : D) : Rs D := match x, y with
  | .lst ds, .int i => ofO (atI ds i)
  | .tup ds, .int i => ofO (atI ds i)
  | .scr ns, .int i => ofO (atI (dInts ns) i)
  | _, _ => .bad
/-- an item of a text -/
def gIxS (x y : D) : Rs D := match x, y with
  | .str z, .int i => if z.length ≤ lim then (match atI z.cps.toList i with
      | some c => .ok (.str ⟨#[c]⟩)
      | none => .bad) else .bad
  | _, _ => .bad
def gLen (x : D) : Rs D := match x with
  | .lst ds => .ok (.int ds.length)
  | .tup ds => .ok (.int ds.length)
  | .scr ns => .ok (.int ns.length)
  | .str z => if z.length ≤ lim then .ok (.int z.length) else .bad
  | _ => .bad
def truth (x : D) : Rs Bool := match x with
  | .non => .ok false
  | .bl b => .ok b
  | .int i => .ok (i != 0)
  | .lst ds => .ok (!ds.isEmpty)
  | .tup ds => .ok (!ds.isEmpty)
  | .str z => if z.length ≤ lim then .ok ((z.length : Int) != 0) else .bad
  | _ => .bad
/-- and, or, not as values: the operands are truths -/
def asB : D → Rs Bool
  | .bl b => .ok b
  | _ => .bad
def eAnd (a b : Ee) : Ee := fun r => (a r).bind fun x => (asB x).bind fun c => if c then b r else .ok (.bl false)
def eOr (a b : Ee) : Ee := fun r => (a r).bind fun x => (asB x).bind fun c => if c then .ok (.bl true) else b r
def eNot (a : Ee) : Ee := fun r => (a r).bind fun x => (asB x).bind fun c => .ok (.bl (!c))
/-- a op b op' c -/
def eChain (g h : D → D → Rs D) (a b c : Ee) : Ee := fun r => (a r).bind fun x => (b r).bind fun y => (g x y).bind fun u => (asB u).bind fun k => if k then (c r).bind fun z => h y z else .ok (.bl false)
/-- tests -/
def tOf (a : Ee) : Et := fun r => (a r).bind truth
def tBl (a : Ee) : Et := fun r => (a r).bind asB
def tNot (t : Et) : Et := fun r => (t r).map fun b => !b
def tAnd (t u : Et) : Et := fun r => (t r).bind fun b => if b then u r else .ok false
def tOr (t u : Et) : Et := fun r => (t r).bind fun b => if b then .ok true else u r
def tYes : Et := fun _ => .ok true

def aNil : En := fun _ => .ok []
def aCons (e : Ee) (a : En) : En := fun r => (e r).bind fun x => (a r).bind fun xs => .ok (x :: xs)
def eTup (a : En) : Ee := fun r => (a r).bind fun xs => if xs.length ≤ lim then .ok (.tup xs) else .bad
def nLst (a : En) : En := fun r => (a r).bind fun xs => if xs.length ≤ lim then .ok xs else .bad
def roE : Ro → Rs D
  | .rt d => .ok d
  | .rn ds => .ok (.lst ds)
  | .ex c => .ex c
  | .bad => .bad
def roN : Ro → Rs (List D)
  | .rn ds => .ok ds
  | .ex c => .ex c
  | _ => .bad
def eCall (F : List D → Ro) (a : En) : Ee := fun r => (a r).bind fun ds => roE (F ds)
def nCall (F : List D → Ro) (a : En) : En := fun r => (a r).bind fun ds => roN (F ds)

/-! ### what is walked -/
def itemsOf : D → Rs (List D)
  | .lst ds => .ok ds
  | .tup ds => .ok ds
  | .scr ns => .ok (dInts ns)
  | _ => .bad
def listOf : D → Rs (List D)
  | .lst ds => .ok ds
  | .scr ns => .ok (dInts ns)
  | _ => .bad
def tupOf : D → Rs (List D)
  | .tup ds => .ok ds
  | _ => .bad
def iL (a : Ee) : En := fun r => (a r).bind listOf
def iT (a : Ee) : En := fun r => (a r).bind tupOf
def iS (a : Ee) : En := fun r => (a r).bind itemsOf
def rng (lo : Int) (n : Nat) : List D := (List.range n).map fun (k : Nat) => D.int (lo + (k : Int))
def big62 : Int := 4611686018427387904
def iR1 (a : Ee) : En := fun r => (a r).bind fun x => match x with
  | .int j => if -big62 ≤ j ∧ j < big62 then .ok (rng 0 j.toNat) else .bad
  | _ => .bad
def iR2 (a b : Ee) : En := fun r => (a r).bind fun x => (b r).bind fun y => match x, y with
  | .int i, .int j => if -big62 ≤ i ∧ i < big62 ∧ -big62 ≤ j ∧ j < big62 then .ok (rng i (j - i).toNat) else .bad
  | _, _ => .bad
/-- targets -/
def gNm (i : Nat) : Tg := fun d r => .ok (r.set i (.imm d))
def gTp (gs : List Nat) : Tg := fun d r => match d with
  | .tup ds => if ds.length = gs.length then .ok ((gs.zip ds).foldl (fun q p => q.set p.1 (.imm p.2)) r) else .bad
  | _ => .bad
/-- slots forgotten -/
def wipeE (r : Env) : List Nat → Env
  | [] => r
  | v :: vs => (wipeE r vs).set v .no
def lcGo (g : Tg) (t : Et) (e : Ee) (r : Env) : List D → Rs (List D)
  | [] => .ok []
  | x :: xs => (g x r).calm.bind fun r1 => (t r1).calm.bind fun b => if b then (e r1).calm.bind fun y => (lcGo g t e r xs).bind fun ys => .ok (y :: ys) else lcGo g t e r xs
def nComp (src : En) (g : Tg) (ws : List Nat) (t : Et) (e : Ee) : En := fun r => (src r).bind fun items => if items.length ≤ lim then lcGo g t e (wipeE r ws) items else .bad

/-! ### statements -/
def sNx : Es := fun r => .nx r
def sSeq (a b : Es) : Es := fun r => match a r with
  | .nx q => b q
  | o => o
def liftS {α : Type} (r : Env) (x : Rs α) (f : α → So) : So := match x with
  | .ok a => f a
  | .ex c => .ex c r
  | .bad => .bad
@[simp] theorem liftS_ok {α : Type} (r : Env) (a : α) (f : α → So) : liftS r (.ok a) f = f a := Eq.trans rfl rfl
@[simp] theorem liftS_ex {α : Type} (r : Env) (c : String) (f : α → So) : liftS r (.ex c) f = .ex c r := Eq.trans rfl rfl
@[simp] theorem liftS_bad {α : Type} (r : Env) (f : α → So) : liftS r .bad f = .bad := Eq.trans rfl rfl
def sSet (i : Nat) (e : Ee) : Es := fun r => liftS r (e r) fun d => .nx (r.set i (.imm d))
def sSetN (i : Nat) (e : En) : Es := fun r => liftS r (e r) fun ds => .nx (r.set i (.own ds))
def sAsg (e : Ee) (g : Tg) : Es := fun r => liftS r (e r) fun d => liftS r (g d r).calm fun q => .nx q
def sDrop (e : Ee) : Es := fun r => liftS r (e r) fun _ => .nx r
def sIf (t : Et) (a b : Es) : Es := fun r => liftS r (t r) fun c => if c then a r else b r
def sRet (e : Ee) : Es := fun r => liftS r (e r) fun d => .rt d
def sRetN (e : En) : Es := fun r => liftS r (e r) fun ds => .rn ds
def sRetO (i : Nat) : Es := fun r => match r[i]? with
  | some (.own ds) => .rn ds
  | _ => .bad
def sBrk : Es := fun r => .bk r
def sRaise (c : String) : Es := fun r => .ex c r
def forGo (g : Tg) (b : Es) : List D → Env → So
  | [], r => .nx r
  | x :: xs, r => match g x r with
    | .ok r1 => (match b r1 with
      | .nx q => forGo g b xs q
      | .bk q => .nx q
      | o => o)
    | _ => .bad
def sFor (src : En) (g : Tg) (b : Es) : Es := fun r => liftS r (src r) fun items => forGo g b items r
def whGo (t : Et) (b : Es) : Nat → Env → So
  | 0, _ => .bad
  | n + 1, r => liftS r (t r) fun c => if c then (match b r with
      | .nx q => whGo t b n q
      | .bk q => .nx q
      | o => o) else .nx r
def sWh (n : Nat) (t : Et) (b : Es) : Es := whGo t b n
def sApp (i : Nat) (e : Ee) : Es := fun r => match r[i]? with
  | some (.own ds) => liftS r (e r) fun d => if ds.length < lim then .nx (r.set i (.own (ds ++ [d]))) else .bad
  | _ => .bad
def sExt (i : Nat) (e : En) : Es := fun r => match r[i]? with
  | some (.own ds) => liftS r (e r) fun es => if ds.length + es.length ≤ lim then .nx (r.set i (.own (ds ++ es))) else .bad
  | _ => .bad
def sPut (i : Nat) (ix e : Ee) : Es := fun r => liftS r (e r) fun d => match r[i]? with
  | some (.own ds) => liftS r (ix r) fun k => (match k with
    | .int z => (match ixN ds.length z with
      | some j => .nx (r.set i (.own (ds.set j d)))
      | none => .bad)
    | _ => .bad)
  | _ => .bad
/-- y = a[b.pop(0)], a and b two lists of one's own -/
def sPopIx (i a b : Nat) : Es := fun r => match r[a]?, r[b]? with
  | some (.own xs), some (.own (.int k :: ys)) => (match atI xs k with
    | some d => .nx ((r.set b (.own ys)).set i (.imm d))
    | none => .bad)
  | _, _ => .bad
/-- i = j, where j's list is not used as j's any more -/
def sMove (i j : Nat) : Es := fun r => match r[j]? with
  | some (.own ds) => .nx ((r.set j .no).set i (.imm (.lst ds)))
  | _ => .bad
def sPar (i j : Nat) (a b : Ee) : Es := fun r => liftS r (a r) fun x => liftS r (b r) fun y => .nx ((r.set i (.imm x)).set j (.imm y))
/-- i += e -/
def sAug (i : Nat) (e : Ee) : Es := fun r => match r[i]? with
  | some (.imm x) => liftS r (e r) fun y => liftS r (gAdd x y) fun z => .nx (r.set i (.imm z))
  | _ => .bad
/-- try: b except ..: suite; cs tells which classes the clause takes (none: no class of the program's) -/
def noRaise : So → So
  | .ex _ _ => .bad
  | o => o
def sTry (cs : String → Option Bool) (b : Es) (suite : String → Es) : Es := fun r => match b r with
  | .ex c q => (match cs c with
    | some true => noRaise (suite c q)
    | some false => .ex c q
    | none => .bad)
  | o => o
/-- the suites that return what isinstance tells of the error -/
def suL (i : Nat) (bs : String → List Bool) (c : String) : Es := fun r => if i < r.length then .rn ((bs c).map D.bl) else .bad
def suB (i : Nat) (b : String → Bool) (c : String) : Es := fun r => if i < r.length then .rt (.bl (b c)) else .bad

/-- more than enough turns -/
def fuel : Nat := 1000000000000
/-! ### a def -/
def startE (n : Nat) (ds : List D) : Env := ds.map SV.imm ++ List.replicate (n - ds.length) .no
/-- in a def that is handed lists (m) no list that it was handed may go back -/
def endF (m : Bool) : So → Ro
  | .nx _ => .rt .non
  | .rt d => if m && !noL d then .bad else .rt d
  | .rn ds => if m && !noLs ds then .bad else .rn ds
  | .ex c _ => .ex c
  | _ => .bad
def runF (m : Bool) (n np : Nat) (b : Es) (ds : List D) : Ro := if ds.length = np then (if m || noLs ds then endF m (b (startE n ds)) else .bad) else .bad

/-! ### further operations -/
mutual
def deq : D → D → Bool
  | .non, .non => true
  | .bl a, .bl b => a == b
  | .bl a, .int j => (if a then 1 else 0) == j
  | .int i, .bl b => i == (if b then 1 else 0)
  | .int i, .int j => i == j
  | .str x, .str y => x == y
  | .lst xs, .lst ys => deqs xs ys
  | .tup xs, .tup ys => deqs xs ys
  | _, _ => false
def deqs : List D → List D → Bool
  | [], [] => true
  | x :: xs, y :: ys => deq x y && deqs xs ys
  | [], _ :: _ => false
  | _ :: _, [] => false
end
mutual
/-- what == is asked of: no deeper than k -/
def dsh : Nat → D → Bool
  | _, .scr _ => false
  | _, .fn _ _ => false
  | _, .str x => x.cps.all (· < 0x110000)
  | 0, .lst _ => false
  | 0, .tup _ => false
  | k + 1, .lst ds => dshs k ds
  | k + 1, .tup ds => dshs k ds
  | _, .non => true
  | _, .bl _ => true
  | _, .int _ => true
def dshs : Nat → List D → Bool
  | _, [] => true
  | k, d :: ds => dsh k d && dshs k ds
end
def gEq (x y : D) : Rs D := if dsh 8 x && dsh 8 y then .ok (.bl (deq x y)) else .bad
def gNe (x y : D) : Rs D := if dsh 8 x && dsh 8 y then .ok (.bl (!deq x y)) else .bad
def flat0 : D → Bool
  | .non => true
  | .bl _ => true
  | .int _ => true
  | .str _ => true
  | _ => false
def sIx (n d : Nat) : Option Int → Nat
  | none => d
  | some v => if v < 0 then (v + (n : Int)).toNat else min v.toNat n
def cut {α : Type} (xs : List α) (lo hi : Option Int) : List α := (xs.drop (sIx xs.length 0 lo)).take (sIx xs.length xs.length hi - sIx xs.length 0 lo)
abbrev Eo := Env → Rs (Option Int)
def oNo : Eo := fun _ => .ok none
def oAt (e : Ee) : Eo := fun r => (e r).bind fun x => match x with
  | .int i => .ok (some i)
  | _ => .bad
/-- a slice of a tuple; of a list -/
def eSlT (a : Ee) (lo hi : Eo) : Ee := fun r => (a r).bind fun x => (lo r).bind fun l => (hi r).bind fun h => match x with
  | .tup ds => .ok (.tup (cut ds l h))
  | _ => .bad
def nSl (a : Ee) (lo hi : Eo) : En := fun r => (a r).bind fun x => (lo r).bind fun l => (hi r).bind fun h => match x with
  | .lst ds => .ok (cut ds l h)
  | _ => .bad
/-- tuples, lists put together -/
def gCatT (x y : D) : Rs D := match x, y with
  | .tup xs, .tup ys => if xs.length + ys.length ≤ lim then .ok (.tup (xs ++ ys)) else .bad
  | _, _ => .bad
def gCatL (x y : D) : Rs (List D) := match x, y with
  | .lst xs, .lst ys => if xs.length + ys.length ≤ lim then .ok (xs ++ ys) else .bad
  | _, _ => .bad
def nCat (a b : Ee) : En := fun r => (a r).bind fun x => (b r).bind fun y => gCatL x y
/-- the ints of a list of data -/
def asInts : List D → Option (List Int)
  | [] => some []
  | .int i :: r => (asInts r).map fun is => i :: is
  | _ :: _ => none
def withInts {α : Type} (x : D) (f : List Int → Rs α) : Rs α := match x with
  | .lst ds => (match asInts ds with
    | some ns => f ns
    | none => .bad)
  | .tup ds => (match asInts ds with
    | some ns => f ns
    | none => .bad)
  | _ => .bad
def insI (a : Int) : List Int → List Int
  | [] => [a]
  | b :: r => if a ≤ b then a :: b :: r else b :: insI a r
def sortI : List Int → List Int
  | [] => []
  | a :: r => insI a (sortI r)
/-- without repeats, rising -/
def dedI : List Int → List Int
  | [] => []
  | a :: r => if a ∈ r then dedI r else a :: dedI r
def setI (ns : List Int) : List Int := sortI (dedI ns)
def maxI : List Int → Int
  | [] => 0
  | [a] => a
  | a :: r => if a ≥ maxI r then a else maxI r
def minI : List Int → Int
  | [] => 0
  | [a] => a
  | a :: r => if a ≤ minI r then a else minI r
def bSum (x : D) : Rs D := withInts x fun ns => .ok (.int ns.sum)
def bMax (x : D) : Rs D := withInts x fun ns => if ns.isEmpty then .bad else .ok (.int (maxI ns))
def bMin (x : D) : Rs D := withInts x fun ns => if ns.isEmpty then .bad else .ok (.int (minI ns))
def bSort (x : D) : Rs (List D) := withInts x fun ns => if ns.length ≤ lim then .ok (dInts (sortI ns)) else .bad
def bSetSort (x : D) : Rs (List D) := withInts x fun ns => if ns.length < 4000 then .ok (dInts (setI ns)) else .bad
def lstO (g : D → Rs D) (x : D) : Rs D := match x with
  | .lst ds => g (.lst ds)
  | _ => .bad
/-- sorted of a list (no tuple) of ints -/
def lstOnly (g : D → Rs (List D)) (x : D) : Rs (List D) := match x with
  | .lst ds => g (.lst ds)
  | _ => .bad
def nOp1 (g : D → Rs (List D)) (a : Ee) : En := fun r => (a r).bind g
/-- list(x), tuple(x) of a list or tuple -/
def bList (x : D) : Rs (List D) := itemsOf x
def bTuple (x : D) : Rs D := match x with
  | .lst ds => .ok (.tup ds)
  | .tup ds => .ok (.tup ds)
  | _ => .bad
/-- list(range(..)), tuple(range(..)) -/
def nRng (e : En) : En := fun r => (e r).bind fun ds => if ds.length ≤ lim then .ok ds else .bad
def eRng (e : En) : Ee := fun r => (e r).bind fun ds => if ds.length ≤ lim then .ok (.tup ds) else .bad
def gAddS (x y : D) : Rs D := match x, y with
  | .str a, .str b => if a.length + b.length ≤ lim then .ok (.str (a ++ b)) else .bad
  | _, _ => .bad
/-- isinstance: by the name of a built-in type -/
def isT (t : String) : D → Bool
  | .non => false
  | .bl _ => t == "bool" || t == "int"
  | .int _ => t == "int"
  | .str _ => t == "str"
  | .tup _ => t == "tuple"
  | .lst _ => t == "list"
  | .scr _ => t == "list"
  | .fn _ _ => false
def isFn : D → Bool
  | .fn _ _ => true
  | _ => false
def gIsT (t : String) (x : D) : Rs D := if isFn x then .bad else .ok (.bl (isT t x))
/-- x in a list or tuple of flat things -/
def inL (x : D) (ds : List D) : Bool := ds.any fun y => deq y x
def gIn (x y : D) : Rs D := match itemsOf y with
  | .ok ds => if flat0 x && ds.all flat0 then .ok (.bl (inL x ds)) else .bad
  | _ => .bad
def gNotIn (x y : D) : Rs D := match itemsOf y with
  | .ok ds => if flat0 x && ds.all flat0 then .ok (.bl (!inL x ds)) else .bad
  | _ => .bad
end GM

/-! GMb: data in the abstract heap, slots, what extends; the expressions' rules. -/
namespace GM
open PySem PySem.Spec PyProof.Rows L2

theorem lim_line : lim < sizeLine := by rw [sizeLine_eq]; decide
theorem le_line {n : Nat} (h : n ≤ lim) : n ≤ sizeLine := Nat.le_trans h (Nat.le_of_lt lim_line)
theorem lt_line {n : Nat} (h : n < lim) : n < sizeLine := Nat.lt_trans h lim_line

/-! ### tables of code objects; heaps that grow -/
/-- a lambda of the program: its words, the names that it captures -/
structure Lm where
  qual : Str
  params : Arguments
  body : Expr
  scope : Scope
  fr : List Str
class Tb where
  tb : List (Addr × Str)
  lm : Nat → Lm
/-- the object at a is o, and stays so -/
def FrzO (a : Addr) (o : Obj) : HO := .frz o (.ext fun h => h.get? a = some o)
/-- the captured cells: each known and frozen; those of the names fr hold vs -/
structure ClAt (H : Hp) (cl : List (Str × Addr)) (fr : List Str) (vs : List V) : Prop where
  len : vs.length = fr.length
  all : ∀ y c, cl.lookup y = some c → ∃ oc v, H c = some (FrzO c oc) ∧ oc.data = .cell v
  inj : ∀ x y c, cl.lookup x = some c → cl.lookup y = some c → x = y
  has : ∀ (i : Nat) (y : Str), fr[i]? = some y → ∃ c oc u v, cl.lookup y = some c ∧ H c = some (FrzO c oc) ∧ oc.data = .cell (some u) ∧ vs[i]? = some v ∧ L2.RelV v u
abbrev Tbs [Tb] (H : Hp) : Prop := LamX.Tabs Tb.tb H
def NT (o : HO) : Prop := ∀ ps, o ≠ .tbl ps
/-- all but the tables of code objects stay -/
structure Sm (H H' : Hp) : Prop where
  to : ∀ a o, H a = some o → NT o → H' a = some o
  fr : ∀ a, H' a = none → H a = none
theorem Sm.of {H H' : Hp} (s : ∀ a o, H a = some o → H' a = some o) : Sm H H' := ⟨fun a o e _ => s a o e, fun a e => by
  cases h : H a with
  | none => rfl
  | some o => rw [s a o h] at e; cases e⟩
theorem Sm.refl (H : Hp) : Sm H H := ⟨fun _ _ e _ => e, fun _ e => e⟩
theorem Sm.trans {H H1 H2 : Hp} (a : Sm H H1) (b : Sm H1 H2) : Sm H H2 := ⟨fun c o e n => b.to c o (a.to c o e n) n, fun c e => a.fr c (b.fr c e)⟩
theorem Sm.free {H H' : Hp} (e : Sm H H') {l : Addr} (h : H' l = Option.none) : H l = Option.none := e.fr l h
theorem Sm.lst {H H' : Hp} (s : Sm H H') {a : Addr} {xs : List V} (e : H a = some (.lst xs)) : H' a = some (.lst xs) := s.to _ _ e fun _ z => nomatch z
theorem Sm.tup {H H' : Hp} (s : Sm H H') {a : Addr} {xs : List V} (e : H a = some (.tup xs)) : H' a = some (.tup xs) := s.to _ _ e fun _ z => nomatch z
theorem Sm.frz {H H' : Hp} (s : Sm H H') {a : Addr} {o : Obj} {u : HO} (e : H a = some (.frz o u)) : H' a = some (.frz o u) := s.to _ _ e fun _ z => nomatch z
theorem Sm.seq {K : PySem.W.Frag} {H H' : Hp} {a : Addr} {xs : List V} (e : Sm H H') (h : SqL K H a xs) : SqL K H' a xs := by
  rcases h with (h | ⟨o, h⟩) | h
  · exact .inl (.inl (e.lst h))
  · exact .inl (.inr ⟨o, e.frz h⟩)
  · exact .inr h
variable [Tb]
/-! ### data in a heap -/
def Scr (K : PySem.W.Frag) (H : Hp) (a : Addr) (ns : List Int) : Prop := (∃ o, H a = some (.frz o (.lst (ns.map V.int)))) ∨ SqL K (fun _ => none) a (ns.map V.int)
theorem Scr.sq {K : PySem.W.Frag} {H : Hp} {a : Addr} {ns : List Int} (h : Scr K H a ns) : SqL K H a (ns.map V.int) := by
  rcases h with ⟨o, h⟩ | h
  · exact .inl (.inr ⟨o, h⟩)
  · rcases h with (h | ⟨o, h⟩) | h
    · cases h
    · cases h
    · exact .inr h
mutual
inductive Rp (K : PySem.W.Frag) (H : Hp) : D → V → Prop
  | non : Rp K H .non .non
  | bl (b : Bool) : Rp K H (.bl b) (.bl b)
  | int (i : Int) : Rp K H (.int i) (.int i)
  | str (x : Str) : Rp K H (.str x) (.str x)
  | tup {a : Addr} {xs : List V} {ds : List D} : H a = some (.tup xs) → Rps K H ds xs → Rp K H (.tup ds) (.ref a)
  | lst {a : Addr} {xs : List V} {ds : List D} : H a = some (.lst xs) → Rps K H ds xs → Rp K H (.lst ds) (.ref a)
  | scr {a : Addr} {ns : List Int} : Scr K H a ns → Rp K H (.scr ns) (.ref a)
  | fn {f c' : Addr} {t : Nat} {ds : List D} {vs : List V} {cl : List (Str × Addr)} {pm ctv : Value} :
    H f = some (FrzO f (PySem.W.kla_obj "<lambda>" (Tb.lm t).qual (Tb.lm t).params (Tb.lm t).body (Tb.lm t).scope cl pm c' ctv)) → ClAt H cl (Tb.lm t).fr vs → Rps K H ds vs → H c' = some (LamX.CodeO c' (Tb.lm t).qual) → Rp K H (.fn t ds) (.ref f)
inductive Rps (K : PySem.W.Frag) (H : Hp) : List D → List V → Prop
  | nil : Rps K H [] []
  | cons {d : D} {ds : List D} {v : V} {vs : List V} : Rp K H d v → Rps K H ds vs → Rps K H (d :: ds) (v :: vs)
end

section
variable {K : PySem.W.Frag} {H H' : Hp}
theorem Sm.frzO (s : Sm H H') {a c : Addr} {o : Obj} (e : H a = some (FrzO c o)) : H' a = some (FrzO c o) := s.frz e
theorem Sm.code (s : Sm H H') {a c : Addr} {q : Str} (e : H a = some (LamX.CodeO c q)) : H' a = some (LamX.CodeO c q) := s.to _ _ e fun _ z => by unfold LamX.CodeO at z; cases z
/-- what is known of cells alone is kept -/
theorem ClAt.to {cl : List (Str × Addr)} {fr : List Str} {vs : List V} (C : ClAt H cl fr vs) (e : ∀ c oc, H c = some (FrzO c oc) → H' c = some (FrzO c oc)) : ClAt H' cl fr vs :=
  ⟨C.len, fun y c h => let ⟨oc, v, h1, h2⟩ := C.all y c h; ⟨oc, v, e _ _ h1, h2⟩, C.inj, fun i y h => let ⟨c, oc, u, v, h1, h2, h3⟩ := C.has i y h; ⟨c, oc, u, v, h1, e _ _ h2, h3⟩⟩
mutual
theorem Rp.same : ∀ {d : D} {v : V}, Rp K H d v → Sm H H' → Rp K H' d v
  | _, _, .non, _ => .non
  | _, _, .bl b, _ => .bl b
  | _, _, .int i, _ => .int i
  | _, _, .str x, _ => .str x
  | _, _, .tup h r, e => .tup (e.tup h) (Rps.same r e)
  | _, _, .lst h r, e => .lst (e.lst h) (Rps.same r e)
  | _, _, .scr h, e => .scr (h.elim (fun ⟨o, h⟩ => .inl ⟨o, e.frz h⟩) .inr)
  | _, _, .fn h C r hc, e => .fn (e.frzO h) (C.to fun _ _ => e.frzO) (Rps.same r e) (e.code hc)
theorem Rps.same : ∀ {ds : List D} {vs : List V}, Rps K H ds vs → Sm H H' → Rps K H' ds vs
  | _, _, .nil, _ => .nil
  | _, _, .cons r t, e => .cons (Rp.same r e) (Rps.same t e)
end
theorem Rps.length : ∀ {ds : List D} {vs : List V}, Rps K H ds vs → ds.length = vs.length
  | _, _, .nil => rfl
  | _, _, .cons _ t => by rw [List.length_cons, List.length_cons, Rps.length t]
theorem Rps.get : ∀ {ds : List D} {vs : List V} {i : Nat} {d : D}, Rps K H ds vs → ds[i]? = some d → ∃ v, vs[i]? = some v ∧ Rp K H d v
  | _, _, _, _, .nil, e => by simp at e
  | _, _, 0, _, .cons r _, e => by simp at e; subst e; exact ⟨_, rfl, r⟩
  | _, _, i + 1, d, .cons _ t, e => by
    obtain ⟨v, h1, h2⟩ := Rps.get (i := i) (d := d) t (by simpa using e)
    exact ⟨v, by simpa using h1, h2⟩
theorem Rps.getV : ∀ {ds : List D} {vs : List V} {i : Nat} {v : V}, Rps K H ds vs → vs[i]? = some v → ∃ d, ds[i]? = some d ∧ Rp K H d v
  | _, _, _, _, .nil, e => by simp at e
  | _, _, 0, _, .cons r _, e => by simp at e; subst e; exact ⟨_, rfl, r⟩
  | _, _, i + 1, d, .cons _ t, e => by
    obtain ⟨v, h1, h2⟩ := Rps.getV (i := i) (v := d) t (by simpa using e)
    exact ⟨v, by simpa using h1, h2⟩
theorem Rps.append : ∀ {ds es : List D} {vs us : List V}, Rps K H ds vs → Rps K H es us → Rps K H (ds ++ es) (vs ++ us)
  | _, _, _, _, .nil, s => s
  | _, _, _, _, .cons r t, s => .cons r (Rps.append t s)
theorem Rps.set {d : D} {v : V} (r : Rp K H d v) : ∀ {ds : List D} {vs : List V} (i : Nat), Rps K H ds vs → Rps K H (ds.set i d) (vs.set i v)
  | _, _, _, .nil => .nil
  | _, _, 0, .cons _ t => .cons r t
  | _, _, i + 1, .cons q t => .cons q (Rps.set r i t)
theorem Rps.take : ∀ {ds : List D} {vs : List V} (n : Nat), Rps K H ds vs → Rps K H (ds.take n) (vs.take n)
  | _, _, 0, _ => .nil
  | _, _, _ + 1, .nil => .nil
  | _, _, n + 1, .cons r t => .cons r (Rps.take n t)
theorem Rps.drop : ∀ {ds : List D} {vs : List V} (n : Nat), Rps K H ds vs → Rps K H (ds.drop n) (vs.drop n)
  | _, _, 0, r => r
  | _, _, _ + 1, .nil => .nil
  | _, _, n + 1, .cons _ t => Rps.drop n t
theorem Rps.ofInts : ∀ (ns : List Int), Rps K H (dInts ns) (ns.map V.int)
  | [] => .nil
  | n :: r => .cons (.int n) (Rps.ofInts r)
theorem Rps.toInts : ∀ {ns : List Int} {vs : List V}, Rps K H (dInts ns) vs → vs = ns.map V.int
  | [], _, .nil => rfl
  | n :: r, _, .cons h t => by cases h; rw [Rps.toInts t]; rfl
theorem rps_rng (lo : Int) (n : Nat) : Rps K H (rng lo n) ((List.range n).map fun (k : Nat) => V.int (lo + (k : Int))) := by
  unfold rng
  generalize List.range n = l
  induction l with
  | nil => exact .nil
  | cons k r ih => exact .cons (.int _) ih
end

/-! ### views of a heap -/
/-- H' but the lists that stood in H -/
def vw (H H' : Hp) : Hp := fun a => match H a with
  | some (.lst _) => none
  | _ => H' a
theorem vw_of {H H' : Hp} {a : Addr} {o : HO} (h : H' a = some o) (n : ∀ xs, H a ≠ some (.lst xs)) : vw H H' a = some o := by
  unfold vw
  split
  · rename_i xs e; exact absurd e (n xs)
  · exact h
theorem of_vw {H H' : Hp} {a : Addr} {o : HO} (h : vw H H' a = some o) : H' a = some o ∧ ∀ xs, H a ≠ some (.lst xs) := by
  unfold vw at h
  split at h
  · cases h
  · rename_i hn; exact ⟨h, fun xs e => hn xs e⟩
def rm (a : Addr) (H : Hp) : Hp := fun b => if b = a then none else H b
theorem rm_sub {a : Addr} {H : Hp} : Sm (rm a H) H := .of fun b o h => by
  unfold rm at h
  split at h
  · cases h
  · exact h
/-- the one, or else the other -/
def orH (A B : Hp) : Hp := fun a => match A a with
  | some (.tbl ps) => (match B a with
    | some o => some o
    | none => some (.tbl ps))
  | some o => some o
  | none => B a
theorem orH_nt {A B : Hp} {a : Addr} {o : HO} (h : A a = some o) (n : NT o) : orH A B a = some o := by
  unfold orH
  rw [h]
  cases o <;> first | rfl | exact absurd rfl (n _)
theorem orH_no {A B : Hp} {a : Addr} (h : A a = none) : orH A B a = B a := by
  unfold orH
  rw [h]
theorem orH_tb {A B : Hp} {a : Addr} {ps : Array Value} (h : A a = some (.tbl ps)) : orH A B a = (match B a with
    | some o => some o
    | none => some (.tbl ps)) := by
  unfold orH
  rw [h]
theorem orH_none {A B : Hp} {a : Addr} (h : orH A B a = none) : A a = none ∧ B a = none := by
  cases e : A a with
  | none => exact ⟨rfl, by rw [orH_no e] at h; exact h⟩
  | some o =>
    by_cases n : NT o
    · rw [orH_nt e n] at h; cases h
    · obtain ⟨ps, z⟩ := Classical.not_forall.mp n
      have z := Classical.not_not.mp z
      subst z
      rw [orH_tb e] at h
      cases q : B a with
      | none => rw [q] at h; cases h
      | some o => rw [q] at h; cases h
theorem orH_l {A B : Hp} : Sm A (orH A B) := ⟨fun _ _ h n => orH_nt h n, fun _ h => (orH_none h).1⟩
theorem orH_r {A B H : Hp} (hA : Sm A H) (hB : Sm B H) : Sm B (orH A B) := ⟨fun a o h n => by
  cases e : A a with
  | none => rw [orH_no e]; exact h
  | some u =>
    by_cases m : NT u
    · rw [orH_nt e m]
      have := hA.to a u e m
      rw [hB.to a o h n] at this
      exact this.symm
    · obtain ⟨ps, z⟩ := Classical.not_forall.mp m
      have z := Classical.not_not.mp z
      subst z
      rw [orH_tb e, h], fun _ h => (orH_none h).2⟩
theorem orH_sub {A B H : Hp} (hA : Sm A H) (hB : Sm B H) : Sm (orH A B) H := ⟨fun a o h n => by
  cases e : A a with
  | none => rw [orH_no e] at h; exact hB.to a o h n
  | some u =>
    by_cases m : NT u
    · rw [orH_nt e m] at h; cases h; exact hA.to a _ e m
    · obtain ⟨ps, z⟩ := Classical.not_forall.mp m
      have z := Classical.not_not.mp z
      subst z
      rw [orH_tb e] at h
      cases q : B a with
      | none => rw [q] at h; cases h; exact absurd rfl (n _)
      | some o => rw [q] at h; cases h; exact hB.to a _ q n, fun a h => by
  cases e : A a with
  | none => rw [orH_no e]; exact hB.fr a h
  | some u => rw [hA.fr a h] at e; cases e⟩

/-- what the def was handed: the heap at its entry; m: lists may be handed in -/
structure Fm where
  H0 : Hp
  m : Bool

def SlotR (K : PySem.W.Frag) (F : Fm) (Hi H : Hp) (s : Option (Option V)) : SV → Prop
  | .no => True
  | .imm d => ∃ v, s = some (some v) ∧ Rp K Hi d v
  | .own ds => ∃ a xs, s = some (some (.ref a)) ∧ H a = some (.lst xs) ∧ Hi a = none ∧ F.H0 a = none ∧ Rps K Hi ds xs

structure Rel (K : PySem.W.Frag) (F : Fm) (r : Env) (σ : L2.St) (Hi H : Hp) : Prop where
  sub : Sm Hi H
  base : Sm F.H0 H
  tabs : Tbs H
  mode : F.m = false → ∀ a xs, F.H0 a = some (.lst xs) → Hi a = none
  slot : ∀ (i : Nat) (sv : SV), r[i]? = some sv → SlotR K F Hi H σ[i]? sv
  inj : ∀ (i j : Nat) (di dj : List D) (a : Addr), i ≠ j → r[i]? = some (.own di) → r[j]? = some (.own dj) → σ[i]? = some (some (.ref a)) → σ[j]? ≠ some (some (.ref a))
  len : r.length = σ.length

/-- the heap has grown; the view, too, but by no list that stood outside of it -/
structure Ext (Hi H Hi' H' : Hp) : Prop where
  hi : Sm Hi Hi'
  h : Sm H H'
  sub : Sm Hi' H'
  out : ∀ a xs, H a = some (.lst xs) → Hi a = none → Hi' a = none
  tab : Tbs H → Tbs H'
section
variable {K : PySem.W.Frag} {F : Fm} {r : Env} {σ : L2.St} {Hi H Hi' H' Hi2 H2 : Hp}
theorem Ext.refl (s : Sm Hi H) : Ext Hi H Hi H := ⟨Sm.refl _, Sm.refl _, s, fun _ _ _ n => n, id⟩
theorem Ext.trans (a : Ext Hi H Hi' H') (b : Ext Hi' H' Hi2 H2) : Ext Hi H Hi2 H2 :=
  ⟨a.hi.trans b.hi, a.h.trans b.h, b.sub, fun c xs e n => b.out c xs (a.h.lst e) (a.out c xs e n), fun t => b.tab (a.tab t)⟩
theorem SlotR.ext {s : Option (Option V)} : ∀ {sv : SV}, SlotR K F Hi H s sv → Ext Hi H Hi' H' → SlotR K F Hi' H' s sv
  | .no, _, _ => trivial
  | .imm d, ⟨v, e, p⟩, x => ⟨v, e, p.same x.hi⟩
  | .own ds, ⟨a, xs, e, h, n, n0, p⟩, x => ⟨a, xs, e, x.h.lst h, x.out a xs h n, n0, p.same x.hi⟩
theorem Rel.ext (R : Rel K F r σ Hi H) (x : Ext Hi H Hi' H') : Rel K F r σ Hi' H' :=
  ⟨x.sub, R.base.trans x.h, x.tab R.tabs, fun m a xs e => x.out a xs (R.base.lst e) (R.mode m a xs e), fun i sv e => (R.slot i sv e).ext x, R.inj, R.len⟩
theorem Rel.rfl' (R : Rel K F r σ Hi H) : Ext Hi H Hi H := Ext.refl R.sub
theorem fr_upd {H : Hp} {p a : Addr} {o : HO} (h : upd H p o a = none) : a ≠ p ∧ H a = none := by
  have n : a ≠ p := fun c => by rw [c, upd_same] at h; cases h
  rw [upd_ne n] at h
  exact ⟨n, h⟩
theorem Sm.new {p : Addr} {o : HO} (hp : H p = none) : Sm H (upd H p o) := .of fun a u e => by rw [upd_ne (ne_of_none e hp)]; exact e
theorem Sm.updR {p : Addr} {o : HO} (s : Sm Hi H) (hp : H p = none) : Sm Hi (upd H p o) := s.trans (Sm.new hp)
theorem Sm.updL {p : Addr} {o : HO} (s : Sm Hi H) (e : H p = some o) : Sm (upd Hi p o) H := ⟨fun a u q n => by
  by_cases c : a = p
  · subst c; rw [upd_same] at q; cases q; exact e
  · rw [upd_ne c] at q; exact s.to a u q n, fun a q => by
  rw [upd_ne (fun c => by subst c; rw [e] at q; cases q)]; exact s.fr a q⟩
theorem Sm.upd2 {p : Addr} {o : HO} (s : Sm Hi H) (hp : H p = none) : Sm (upd Hi p o) (upd H p o) := (s.updR hp).updL upd_same
theorem tab_upd {p : Addr} {o : HO} (hp : H p = none) (t : Tbs H) : Tbs (upd H p o) := t.ext fun a u e => by rw [upd_ne (ne_of_none e hp)]; exact e
/-- an address that the one does not see is written in the other -/
theorem Sm.updX {p : Addr} {o : HO} (s : Sm Hi H) (hp : Hi p = none) : Sm Hi (upd H p o) := ⟨fun a u e n => by rw [upd_ne (ne_of_none e hp)]; exact s.to a u e n, fun a e => s.fr a (fr_upd e).2⟩
theorem tab_lst {a : Addr} {xs ys : List V} (h : H a = some (.lst xs)) (t : Tbs H) : Tbs (upd H a (.lst ys)) := fun p hp => by
  obtain ⟨ps, h1, h2, h3⟩ := t p hp
  refine ⟨ps, by rw [upd_ne (fun c => by rw [c, h] at h1; cases h1)]; exact h1, h2, fun pos cv hc => ?_⟩
  obtain ⟨c, e1, e2⟩ := h3 pos cv hc
  refine ⟨c, e1, by rw [upd_ne (fun z => by rw [z, h] at e2; unfold LamX.CodeO at e2; cases e2)]; exact e2⟩
/-- a new tuple -/
theorem Ext.tup {p : Addr} {xs : List V} (s : Sm Hi H) (hp : H p = none) : Ext Hi H (upd Hi p (.tup xs)) (upd H p (.tup xs)) where
  hi := Sm.new (s.fr p hp)
  h := Sm.new hp
  sub := s.upd2 hp
  out := fun a ys e n => by rw [upd_ne (ne_of_none e hp)]; exact n
  tab := tab_upd hp
/-- a new list, seen or not -/
theorem Ext.lstS {p : Addr} {xs : List V} (s : Sm Hi H) (hp : H p = none) : Ext Hi H (upd Hi p (.lst xs)) (upd H p (.lst xs)) where
  hi := Sm.new (s.fr p hp)
  h := Sm.new hp
  sub := s.upd2 hp
  out := fun a ys e n => by rw [upd_ne (ne_of_none e hp)]; exact n
  tab := tab_upd hp
theorem Ext.lst {p : Addr} {o : HO} (s : Sm Hi H) (hp : H p = none) : Ext Hi H Hi (upd H p o) where
  hi := Sm.refl _
  h := Sm.new hp
  sub := s.updR hp
  out := fun a ys e n => n
  tab := tab_upd hp
/-- a list outside of the view comes into it -/
theorem Ext.see {p : Addr} {xs : List V} (x : Ext Hi H Hi' H') (hp : H p = none) (e : H' p = some (.lst xs)) (n : Hi' p = none) : Ext Hi H (upd Hi' p (.lst xs)) H' where
  hi := x.hi.trans (Sm.new n)
  h := x.h
  sub := x.sub.updL e
  out := fun a ys q m => by rw [upd_ne (ne_of_none q hp)]; exact x.out a ys q m
  tab := x.tab

/-- an expression's value: seen, or (p = false) perhaps a list of one's own -/
def RvP (K : PySem.W.Frag) (p : Bool) (Hi H : Hp) (d : D) (v : V) : Prop :=
  Rp K Hi d v ∨ (p = false ∧ ∃ a xs ds, v = .ref a ∧ d = .lst ds ∧ H a = some (.lst xs) ∧ Rps K Hi ds xs)
theorem RvP.ext {p : Bool} {d : D} {v : V} (h : RvP K p Hi H d v) (x : Ext Hi H Hi' H') : RvP K p Hi' H' d v := by
  rcases h with h | ⟨e, a, xs, ds, e1, e2, h, q⟩
  · exact .inl (h.same x.hi)
  · exact .inr ⟨e, a, xs, ds, e1, e2, x.h.lst h, q.same x.hi⟩
theorem RvP.rp {d : D} {v : V} (h : RvP K true Hi H d v) : Rp K Hi d v := by
  rcases h with h | ⟨e, _⟩
  · exact h
  · cases e
theorem RvP.rpH {p : Bool} {d : D} {v : V} (h : RvP K p Hi H d v) (s : Sm Hi H) : Rp K H d v := by
  rcases h with h | ⟨e, a, xs, ds, rfl, rfl, h, q⟩
  · exact h.same s
  · exact .lst h (q.same s)
theorem RvP.any {p q : Bool} {d : D} {v : V} (h : RvP K p Hi H d v) (e : p = q ∨ p = true) : RvP K q Hi H d v := by
  rcases h with h | h
  · exact .inl h
  · rcases e with rfl | rfl
    · exact .inr h
    · cases h.1
/-- a list to be read, its items seen -/
theorem RvP.lst {p : Bool} {ds : List D} {v : V} (h : RvP K p Hi H (.lst ds) v) (s : Sm Hi H) : ∃ a xs, v = .ref a ∧ H a = some (.lst xs) ∧ Rps K Hi ds xs := by
  rcases h with h | ⟨e, a, xs, ds', rfl, e2, h, q⟩
  · cases h with
    | lst h q => exact ⟨_, _, rfl, s.lst h, q⟩
  · cases e2; exact ⟨a, xs, rfl, h, q⟩
theorem RvP.tup {p : Bool} {ds : List D} {v : V} (h : RvP K p Hi H (.tup ds) v) (s : Sm Hi H) : ∃ a xs, v = .ref a ∧ Hi a = some (.tup xs) ∧ H a = some (.tup xs) ∧ Rps K Hi ds xs := by
  rcases h with h | ⟨e, a, xs, ds', rfl, e2, h, q⟩
  · cases h with
    | tup h q => exact ⟨_, _, rfl, h, s.tup h, q⟩
  · cases e2
theorem RvP.scr {p : Bool} {ns : List Int} {v : V} (h : RvP K p Hi H (.scr ns) v) (s : Sm Hi H) : ∃ a, v = .ref a ∧ SqL K H a (ns.map V.int) ∧ Scr K Hi a ns := by
  rcases h with h | ⟨e, a, xs, ds', rfl, e2, h, q⟩
  · cases h with
    | scr h =>
      refine ⟨_, rfl, ?_, h⟩
      have : Scr K H _ ns := h.elim (fun ⟨o, h⟩ => .inl ⟨o, s.frz h⟩) .inr
      exact this.sq
  · cases e2
theorem RvP.int {p : Bool} {i : Int} {v : V} (h : RvP K p Hi H (.int i) v) : v = .int i := by
  rcases h with h | ⟨e, a, xs, ds', rfl, e2, h, q⟩
  · cases h; rfl
  · cases e2
theorem RvP.str {p : Bool} {i : Str} {v : V} (h : RvP K p Hi H (.str i) v) : v = .str i := by
  rcases h with h | ⟨e, a, xs, ds', rfl, e2, h, q⟩
  · cases h; rfl
  · cases e2
theorem RvP.bl {p : Bool} {i : Bool} {v : V} (h : RvP K p Hi H (.bl i) v) : v = .bl i := by
  rcases h with h | ⟨e, a, xs, ds', rfl, e2, h, q⟩
  · cases h; rfl
  · cases e2
theorem RvP.non {p : Bool} {v : V} (h : RvP K p Hi H .non v) : v = .non := by
  rcases h with h | ⟨e, a, xs, ds', rfl, e2, h, q⟩
  · cases h; rfl
  · cases e2
end

/-! ### the readings -/
def clsOf (X : Cx) (c : String) (u : Value) : Prop := X.mg (Str.ofString c) = some u
/-- what is wanted of an answer -/
def Po {α : Type} (X : Cx) (W : WX) (σ : L2.St) (Hi H : Hp) (x : Rs α) (k : α → Hp → Hp → Prop) : Prop := match x with
  | .ok a => ∀ Hi' H', Ext Hi H Hi' H' → k a Hi' H'
  | .ex c => ∀ Hi' H' u, Ext Hi H Hi' H' → clsOf X c u → W u none σ H'
  | .bad => False
section
variable {X : Cx} {W : WX} {σ : L2.St} {Hi H : Hp} {α β : Type}
theorem Po.bind {x : Rs α} {f : α → Rs β} {k : β → Hp → Hp → Prop} (h : Po X W σ Hi H (x.bind f) k) : Po X W σ Hi H x fun a Hi' H' => Ext Hi H Hi' H' → Po X W σ Hi' H' (f a) k := by
  cases x with
  | ok a =>
    intro Hi' H' e e'
    have h : Po X W σ Hi H (f a) k := h
    revert h
    cases f a with
    | ok b => exact fun h Hi2 H2 e2 => h Hi2 H2 (e.trans e2)
    | ex c => exact fun h Hi2 H2 u e2 => h Hi2 H2 u (e.trans e2)
    | bad => exact id
  | ex c => exact h
  | bad => exact h
theorem Po.map {x : Rs α} {f : α → β} {k : β → Hp → Hp → Prop} (h : Po X W σ Hi H (x.map f) k) : Po X W σ Hi H x fun a Hi' H' => k (f a) Hi' H' := by
  cases x with
  | ok a => exact h
  | ex c => exact h
  | bad => exact h
theorem Po.imp {x : Rs α} {k k' : α → Hp → Hp → Prop} (h : Po X W σ Hi H x k) (f : ∀ a Hi' H', x = .ok a → Ext Hi H Hi' H' → k a Hi' H' → k' a Hi' H') : Po X W σ Hi H x k' := by
  cases x with
  | ok a => exact fun Hi' H' e => f a Hi' H' rfl e (h Hi' H' e)
  | ex c => exact h
  | bad => exact h
end

def tE (X : Cx) (W : WX) (p : Bool) (f : Ee) : TE := fun σ H Q => ∃ F r Hi, Rel X.K F r σ Hi H ∧ Po X W σ Hi H (f r) fun d Hi' H' => ∀ v, RvP X.K p Hi' H' d v → Q v H'
def tN (X : Cx) (W : WX) (f : En) : TE := fun σ H Q => ∃ F r Hi, Rel X.K F r σ Hi H ∧ Po X W σ Hi H (f r) fun ds Hi' H' => ∀ a xs, H a = none → H' a = some (.lst xs) → Hi' a = none → Rps X.K Hi' ds xs → Q (.ref a) H'
def tT (X : Cx) (W : WX) (f : Et) : TT := fun σ H Q => ∃ F r Hi, Rel X.K F r σ Hi H ∧ Po X W σ Hi H (f r) fun b Hi' H' => Q b H'
def tA (X : Cx) (W : WX) (f : En) : TA := fun σ H Q => ∃ F r Hi, Rel X.K F r σ Hi H ∧ Po X W σ Hi H (f r) fun ds Hi' H' => ∀ vs, Rps X.K H' ds vs → Q vs H'
def tAp (X : Cx) (W : WX) (f : En) : TA := fun σ H Q => ∃ F r Hi, Rel X.K F r σ Hi H ∧ Po X W σ Hi H (f r) fun ds Hi' H' => ∀ vs, Rps X.K Hi' ds vs → Q vs H'

/-- which exceptions are let out: all; with nn those alone that were made where nothing was handled -/
class Md where
  nn : Bool
@[reducible] instance (priority := low) md0 : Md := ⟨false⟩
def Tk [Md] (X : Cx) (W : WX) : Prop := match Md.nn with
  | true => L2N.Takes X W
  | false => L2.Takes X W
def CXm [Md] (P : Program) (w : World) : CXT := match Md.nn with
  | true => L2N.CX P w
  | false => L2.CX P w
theorem tk_any [m : Md] {X : Cx} {W : WX} (h1 : L2N.Takes X W) (h2 : L2.Takes X W) : Tk X W := by
  obtain ⟨b⟩ := m
  cases b
  · exact h2
  · exact h1
theorem tk0 [Md] {X : Cx} : Tk X (fun _ _ _ _ => False) := tk_any (fun _ _ ⟨_, _, _, _, _, _, _, _, _, _, _, _, _, _, _, _, w⟩ => w.elim) (fun _ _ ⟨_, _, _, _, _, _, _, _, _, _, _, _, _, _, _, _, w⟩ => w.elim)
theorem passM [m : Md] {X : Cx} {W : WX} (tk : Tk X W) (σ : L2.St) : PassesAt (CXm X.prog X.w) X σ (WE W σ) := by
  obtain ⟨b⟩ := m
  cases b
  · exact passAt (show L2.Takes X W from tk) σ
  · exact L2N.passAt (show L2N.Takes X W from tk) σ
theorem tk_of [m : Md] {X : Cx} (hs : X.stack = X.env :: X.outer) (hf : X.env.frame = some X.env.locals) (hex : X.ex = []) {E : XK} {E₁ : Value → Shared → Prop}
    (hx : X.xe = fun e s' => wpAny (model X.prog X.w) X.A (leaving X.env e) (fun _ s'' => CXm X.prog X.w X.outer X.H_0 X.s_0 E e s'') E₁ s') : Tk X (fun cls d _ H => E cls d H) := by
  obtain ⟨b⟩ := m
  cases b
  · exact L2.takes_of hs hf hex hx
  · exact L2N.takes_of hs hf hex hx
variable [Md]
def GE (X : Cx) (p : Bool) (e : Expr) (f : Ee) : Prop := ∀ W : WX, Tk X W → PE X e (tE X W p f)
def GN (X : Cx) (e : Expr) (f : En) : Prop := ∀ W : WX, Tk X W → PE X e (tN X W f)
def GT (X : Cx) (e : Expr) (f : Et) : Prop := ∀ W : WX, Tk X W → PT X e (tT X W f)
def GW (X : Cx) (e : Expr) (f : Et) : Prop := ∀ W : WX, Tk X W → PW X e (tT X W f)
/-- arguments: as they stand; seen (for displays) -/
def GA (X : Cx) (es : List Expr) (f : En) : Prop := ∀ W : WX, Tk X W → PA X es (tA X W f)
def GAp (X : Cx) (es : List Expr) (f : En) : Prop := ∀ W : WX, Tk X W → PA X es (tAp X W f)

theorem pe_imp {X : Cx} {e : Expr} {t t' : TE} (h : PE X e t) (i : ∀ σ H Q, t' σ H Q → t σ H Q) : PE X e t' := ⟨fun pins s σ H Q I q => h.run pins s σ H Q I (i σ H Q q)⟩
theorem pt_imp {X : Cx} {e : Expr} {t t' : TT} (h : PT X e t) (i : ∀ σ H Q, t' σ H Q → t σ H Q) : PT X e t' := ⟨fun pins s σ H Q I q => h.run pins s σ H Q I (i σ H Q q)⟩
theorem pw_imp {X : Cx} {e : Expr} {t t' : TT} (h : PW X e t) (i : ∀ σ H Q, t' σ H Q → t σ H Q) : PW X e t' := ⟨fun w pins s σ H Q I q => h.run w pins s σ H Q I (i σ H Q q)⟩
theorem pa_imp {X : Cx} {e : List Expr} {t t' : TA} (h : PA X e t) (i : ∀ σ H Q, t' σ H Q → t σ H Q) : PA X e t' := ⟨fun p pins s σ H Q I q => h.run p pins s σ H Q I (i σ H Q q)⟩
theorem ps_imp {X : Cx} {e : Stmt} {t t' : TS} (h : PS X e t) (i : ∀ D σ H, t' D σ H → t D σ H) : PS X e t' := ⟨fun pins s σ H D I q => h.run pins s σ H D I (i D σ H q)⟩
theorem pss_imp {X : Cx} {e : List Stmt} {t t' : TS} (h : PSs X e t) (i : ∀ D σ H, t' D σ H → t D σ H) : PSs X e t' := ⟨fun pins s σ H D I q => h.run pins s σ H D I (i D σ H q)⟩

section
variable {X : Cx} {p q : Bool} {e a b c : Expr} {f g : Ee} {pos : Pos}
theorem GE.any (h : GE X p e f) (hp : p = q ∨ p = true) : GE X q e f := fun W tk => pe_imp (h W tk) fun σ H Q ⟨F, r, Hi, R, h⟩ =>
  ⟨F, r, Hi, R, h.imp fun d Hi' H' _ _ k v rv => k v (rv.any hp)⟩
/-- a new list, seen -/
theorem GN.ge {f : En} (h : GN X e f) : GE X p e (toE f) := fun W tk => pe_imp (h W tk) fun σ H Q ⟨F, r, Hi, R, h⟩ => by
  refine ⟨F, r, Hi, R, ?_⟩
  have h := Po.map h
  revert h
  cases f r with
  | ok ds =>
    intro h Hi' H' x a xs hn ha hi q
    exact h (upd Hi' a (.lst xs)) H' (x.see hn ha hi) _ (.inl (.lst upd_same (q.same (Sm.new hi))))
  | ex c => exact id
  | bad => exact id
/-! ### names, constants -/
theorem ge_v (i : Nat) {x : Str} (hN : X.N[i]? = some x) (hv : Vis X.env.scope x) (hd : (x == ("__debug__" : Str)) = false := by decide) (hcd : (x == ("__classdict__" : Str)) = false := by decide) : GE X p (.Name x pos) (vI i) := fun W tk =>
  pe_imp (pe_var (i := i) hN hv hd hcd) fun σ H Q ⟨F, r, Hi, R, h⟩ => by
    unfold vI at h
    split at h
    · rename_i d e
      obtain ⟨v, ev, rv⟩ := R.slot i _ e
      exact ⟨v, ev, h Hi H R.rfl' v (.inl rv)⟩
    · exact h.elim
theorem ge_o (i : Nat) {x : Str} (hN : X.N[i]? = some x) (hv : Vis X.env.scope x) (hd : (x == ("__debug__" : Str)) = false := by decide) (hcd : (x == ("__classdict__" : Str)) = false := by decide) : GE X false (.Name x pos) (vO i) := fun W tk =>
  pe_imp (pe_var (i := i) hN hv hd hcd) fun σ H Q ⟨F, r, Hi, R, h⟩ => by
    unfold vO at h
    split at h
    · rename_i ds e
      obtain ⟨a, xs, ev, ha, _, _, rv⟩ := R.slot i _ e
      exact ⟨_, ev, h Hi H R.rfl' _ (.inr ⟨rfl, a, xs, ds, rfl, rfl, ha, rv⟩)⟩
    · exact h.elim
theorem ge_c {v : V} {d : D} (h : PE X e (tC v)) (r : ∀ K H, Rp K H d v) : GE X p e (cst d) := fun W tk =>
  pe_imp h fun σ H Q ⟨F, r', Hi, R, h⟩ => h Hi H R.rfl' v (.inl (r _ _))
theorem ge_int {i : Int} {j : Nat} : GE X p (.Constant (.int i) j pos) (cst (.int i)) := ge_c pe_int fun _ _ => .int i
theorem ge_bl {i : Bool} {j : Nat} : GE X p (.Constant (.bool i) j pos) (cst (.bl i)) := ge_c pe_bl fun _ _ => .bl i
theorem ge_non {j : Nat} : GE X p (.Constant .none j pos) (cst .non) := ge_c pe_non fun _ _ => .non
theorem ge_str {i : Str} {j : Nat} : GE X p (.Constant (.str i) j pos) (cst (.str i)) := ge_c pe_str fun _ _ => .str i
/-- a module's int -/
theorem ge_gint {x : Str} {i : Int} {t : Tok} (hg : Gl X x) (hm : X.mg x = some (.int i t)) (hd : (x == ("__debug__" : Str)) = false := by decide) : GE X p (.Name x pos) (cst (.int i)) := ge_c (v := .int i) (pe_glob hg hm ⟨t, rfl⟩ hd) fun _ _ => .int i
theorem ge_gstr {x i : Str} {t : Tok} (hg : Gl X x) (hm : X.mg x = some (.str i t)) (hd : (x == ("__debug__" : Str)) = false := by decide) : GE X p (.Name x pos) (cst (.str i)) := ge_c (v := .str i) (pe_glob hg hm ⟨t, rfl⟩ hd) fun _ _ => .str i

/-! ### operations by values -/
/-- an operation of two values is what r says of the data -/
def Op2 (K : PySem.W.Frag) (p q : Bool) (r : R2) (g : D → D → Rs D) : Prop := ∀ (x y z : D) (v u : V) (Hi H : Hp) (Q : VK), g x y = .ok z → Sm Hi H → RvP K p Hi H x v → RvP K q Hi H y u →
  (∀ w Hi' H', Ext Hi H Hi' H' → Rp K Hi' z w → Q w H') → r v u H Q
def Op1 (K : PySem.W.Frag) (p : Bool) (r : V → Hp → VK → Prop) (g : D → Rs D) : Prop := ∀ (x z : D) (v : V) (Hi H : Hp) (Q : VK), g x = .ok z → Sm Hi H → RvP K p Hi H x v →
  (∀ w Hi' H', Ext Hi H Hi' H' → Rp K Hi' z w → Q w H') → r v H Q
/-- .. never raises -/
def NoEx2 (g : D → D → Rs D) : Prop := ∀ x y c, g x y ≠ .ex c
def NoEx1 (g : D → Rs D) : Prop := ∀ x c, g x ≠ .ex c
theorem Po.op2 {g' : D → D → Rs D} {W : WX} {σ : L2.St} {Hi H : Hp} {r : R2} {x y : D} {v u : V} {Q : VK} (o : Op2 X.K p q r g') (ne : NoEx2 g') (s : Sm Hi H) (rx : RvP X.K p Hi H x v) (ry : RvP X.K q Hi H y u)
    {p' : Bool} (h : Po X W σ Hi H (g' x y) fun d Hi' H' => ∀ v, RvP X.K p' Hi' H' d v → Q v H') : r v u H Q := by
  cases e : g' x y with
  | ok z => rw [e] at h; exact o x y z v u Hi H Q e s rx ry fun w Hi' H' x' rw' => h Hi' H' x' w (.inl rw')
  | ex c => exact absurd e (ne x y c)
  | bad => rw [e] at h; exact h.elim
theorem t_op2 {W : WX} {r : R2} {g' : D → D → Rs D} {p' : Bool} (o : Op2 X.K p q r g') (ne : NoEx2 g') : ∀ σ H Q, tE X W p' (op2 g' f g) σ H Q → tOp r (tE X W p f) (tE X W q g) σ H Q := fun σ H Q ⟨F, ρ, Hi, R, h⟩ => by
  refine ⟨F, ρ, Hi, R, (Po.bind h).imp fun x Hi1 H1 _ e1 k v rv => ?_⟩
  refine ⟨F, ρ, Hi1, R.ext e1, (Po.bind (k e1)).imp fun y Hi2 H2 _ e2 k u ru => ?_⟩
  exact Po.op2 o ne e2.sub (rv.ext e2) ru (k e2)
theorem t_op1 {W : WX} {r : V → Hp → VK → Prop} {g' : D → Rs D} {p' : Bool} (o : Op1 X.K p r g') (ne : NoEx1 g') : ∀ σ H Q, tE X W p' (op1 g' f) σ H Q → tUn r (tE X W p f) σ H Q := fun σ H Q ⟨F, ρ, Hi, R, h⟩ => by
  refine ⟨F, ρ, Hi, R, (Po.bind h).imp fun x Hi1 H1 _ e1 k v rv => ?_⟩
  have k := k e1
  cases e : g' x with
  | ok z => rw [e] at k; exact o x z v Hi1 H1 Q e e1.sub rv fun w Hi' H' x' rw' => k Hi' H' x' w (.inl rw')
  | ex c => exact absurd e (ne x c)
  | bad => rw [e] at k; exact k.elim
theorem ge_bin {op : Operator} {r : R2} {g' : D → D → Rs D} {p' : Bool} (hr : OpR X (binaryOp op) r) (o : Op2 X.K p q r g') (ne : NoEx2 g') (ha : GE X p a f) (hb : GE X q b g) : GE X p' (.BinOp a op b pos) (op2 g' f g) := fun W tk =>
  pe_imp (pe_op hr (ha W tk) (hb W tk)) (t_op2 o ne)
theorem ge_cmp {op : CmpOp} {r : R2} {g' : D → D → Rs D} {p' : Bool} (hr : OpR X (compareOp op) r) (o : Op2 X.K p q r g') (ne : NoEx2 g') (hm : behindInMarks op b = false) (ha : GE X p a f) (hb : GE X q b g) : GE X p' (.Compare a [op] [b] pos) (op2 g' f g) := fun W tk =>
  pe_imp (pe_cmpR hr (ha W tk) (hb W tk) hm) (t_op2 o ne)
theorem ge_un {op : UnaryOp} {r : V → Hp → VK → Prop} {g' : D → Rs D} {p' : Bool} (hr : UnR X (unaryOp op) r) (o : Op1 X.K p r g') (ne : NoEx1 g') (ha : GE X p a f) : GE X p' (.UnaryOp op a pos) (op1 g' f) := fun W tk =>
  pe_imp (pe_un hr (ha W tk)) (t_op1 o ne)

theorem Rp.i (K : PySem.W.Frag) (H : Hp) (i : Int) : Rp K H (.int i) (.int i) := .int i
theorem ne_gI {h : Int → Int → D} : NoEx2 (gI h) := fun x y c e => by cases x <;> cases y <;> cases e
theorem o_gI {K : PySem.W.Frag} {h : Int → Int → D} {k : Int → Int → V} (hk : ∀ i j K H, Rp K H (h i j) (k i j)) : Op2 K p q (rI0 k) (gI h) := fun x y z v u Hi H Q e s rv ru w => by
  cases x <;> cases y <;> first | (cases e; done) | skip
  rename_i i j
  cases e
  exact ⟨i, j, rv.int, ru.int, w _ Hi H (Ext.refl s) (hk i j _ _)⟩
theorem o_add {K : PySem.W.Frag} : Op2 K p q (rI0 fun i j => .int (i + j)) gAdd := o_gI fun i j _ _ => .int _
theorem o_sub {K : PySem.W.Frag} : Op2 K p q (rI0 fun i j => .int (i - j)) gSub := o_gI fun i j _ _ => .int _
theorem o_lt {K : PySem.W.Frag} : Op2 K p q (rI0 fun i j => .bl (decide (i < j))) gLt := o_gI fun i j _ _ => .bl _
theorem o_le {K : PySem.W.Frag} : Op2 K p q (rI0 fun i j => .bl (decide (i ≤ j))) gLe := o_gI fun i j _ _ => .bl _
theorem o_gt {K : PySem.W.Frag} : Op2 K p q (rI0 fun i j => .bl (decide (j < i))) gGt := o_gI fun i j _ _ => .bl _
theorem o_ge {K : PySem.W.Frag} : Op2 K p q (rI0 fun i j => .bl (decide (j ≤ i))) gGe := o_gI fun i j _ _ => .bl _
theorem ne_mul : NoEx2 gMul := fun x y c e => by
  unfold gMul at e
  split at e
  · split at e <;> cases e
  · cases e
theorem o_mul {K : PySem.W.Frag} : Op2 K p q (rI CMul fun i j => .int (i * j)) gMul := fun x y z v u Hi H Q e s rv ru w => by
  unfold gMul at e
  split at e
  · rename_i i j
    split at e
    · rename_i h
      cases e
      exact ⟨i, j, rv.int, ru.int, h, w _ Hi H (Ext.refl s) (.int _)⟩
    · cases e
  · cases e
theorem ne_mod : NoEx2 gMod := fun x y c e => by
  unfold gMod at e
  split at e
  · split at e <;> cases e
  · cases e
theorem o_mod {K : PySem.W.Frag} : Op2 K p q (rI (fun _ j => 0 < j) fun i j => .int (i % j)) gMod := fun x y z v u Hi H Q e s rv ru w => by
  unfold gMod at e
  split at e
  · rename_i i j
    split at e
    · rename_i h
      cases e
      exact ⟨i, j, rv.int, ru.int, h, w _ Hi H (Ext.refl s) (.int _)⟩
    · cases e
  · cases e
theorem ne_div : NoEx2 gDiv := fun x y c e => by
  unfold gDiv at e
  split at e
  · split at e <;> cases e
  · cases e
theorem o_div {K : PySem.W.Frag} : Op2 K p q (rI CDiv fun i j => .int (i / j)) gDiv := fun x y z v u Hi H Q e s rv ru w => by
  unfold gDiv at e
  split at e
  · rename_i i j
    split at e
    · rename_i h
      cases e
      exact ⟨i, j, rv.int, ru.int, h, w _ Hi H (Ext.refl s) (.int _)⟩
    · cases e
  · cases e
theorem ne_neg : NoEx1 gNeg := fun x c e => by cases x <;> cases e
theorem o_neg {K : PySem.W.Frag} : Op1 K p (rU fun i => .int (-i)) gNeg := fun x z v Hi H Q e s rv w => by
  cases x <;> first | (cases e; done) | skip
  rename_i i
  cases e
  exact ⟨i, rv.int, w _ Hi H (Ext.refl s) (.int _)⟩
theorem ge_add (ha : GE X true a f) (hb : GE X true b g) : GE X p (.BinOp a .Add b pos) (op2 gAdd f g) := ge_bin op_add o_add ne_gI ha hb
theorem ge_sub (ha : GE X true a f) (hb : GE X true b g) : GE X p (.BinOp a .Sub b pos) (op2 gSub f g) := ge_bin op_sub o_sub ne_gI ha hb
theorem ge_mul (ha : GE X true a f) (hb : GE X true b g) : GE X p (.BinOp a .Mult b pos) (op2 gMul f g) := ge_bin op_mul o_mul ne_mul ha hb
theorem ge_mod (ha : GE X true a f) (hb : GE X true b g) : GE X p (.BinOp a .Mod b pos) (op2 gMod f g) := ge_bin op_mod o_mod ne_mod ha hb
theorem ge_div (ha : GE X true a f) (hb : GE X true b g) : GE X p (.BinOp a .FloorDiv b pos) (op2 gDiv f g) := ge_bin op_fdiv o_div ne_div ha hb
theorem ge_neg (ha : GE X true a f) : GE X p (.UnaryOp .USub a pos) (op1 gNeg f) := ge_un un_neg o_neg ne_neg ha
theorem ge_lt (ha : GE X true a f) (hb : GE X true b g) : GE X p (.Compare a [.Lt] [b] pos) (op2 gLt f g) := ge_cmp op_lt o_lt ne_gI (nomark _) ha hb
theorem ge_le (ha : GE X true a f) (hb : GE X true b g) : GE X p (.Compare a [.LtE] [b] pos) (op2 gLe f g) := ge_cmp op_le o_le ne_gI (nomark _) ha hb
theorem ge_gt (ha : GE X true a f) (hb : GE X true b g) : GE X p (.Compare a [.Gt] [b] pos) (op2 gGt f g) := ge_cmp op_gt o_gt ne_gI (nomark _) ha hb
theorem ge_ge (ha : GE X true a f) (hb : GE X true b g) : GE X p (.Compare a [.GtE] [b] pos) (op2 gGe f g) := ge_cmp op_ge o_ge ne_gI (nomark _) ha hb
end
end GM

/-! GMc: further expressions. -/
namespace GM
open PySem PySem.Spec PyProof.Rows L2
variable [Tb] [Md]

/-! ### == -/
mutual
def toPy : D → PyData
  | .non => .none
  | .bl b => .bool b
  | .int i => .int i
  | .str x => .str x
  | .tup ds => .tuple (toPys ds)
  | .lst ds => .list (toPys ds)
  | .scr _ => .none
  | .fn _ _ => .none
def toPys : List D → List PyData
  | [] => []
  | d :: ds => toPy d :: toPys ds
end
mutual
theorem dp_of {K : PySem.W.Frag} {H : Hp} : ∀ {k : Nat} {d : D} {v : V}, dsh k d = true → Rp K H d v → Dp K H v (toPy d)
  | _, _, _, _, .non => .non
  | _, _, _, _, .bl b => .bl b
  | _, _, _, _, .int i => .int i
  | _, _, _, _, .str x => .str x
  | 0, _, _, h, .tup e q => by simp [dsh] at h
  | k + 1, _, _, h, .tup e q => .tup (SqT.of e) (dps_of (k := k) (by simpa [dsh] using h) q)
  | 0, _, _, h, .lst e q => by simp [dsh] at h
  | k + 1, _, _, h, .lst e q => .lst (SqL.of e) (dps_of (k := k) (by simpa [dsh] using h) q)
  | _, _, _, h, .scr e => by simp [dsh] at h
  | _, _, _, h, .fn _ _ _ _ => by simp [dsh] at h
theorem dps_of {K : PySem.W.Frag} {H : Hp} : ∀ {k : Nat} {ds : List D} {vs : List V}, dshs k ds = true → Rps K H ds vs → DpAll K H vs (toPys ds)
  | _, _, _, _, .nil => .nil
  | k, _, _, h, .cons r t => by
    have h' := (Bool.and_eq_true_iff.mp (by simpa [dshs] using h))
    exact .cons (dp_of h'.1 r) (dps_of h'.2 t)
end
mutual
theorem lay_of : ∀ (k : Nat) (d : D), dsh k d = true → (toPy d).canLay0 = true ∧ (toPy d).depth ≤ k + 1
  | _, .non, _ => ⟨rfl, by simp [toPy, PyData.depth]⟩
  | _, .bl _, _ => ⟨rfl, by simp [toPy, PyData.depth]⟩
  | _, .int _, _ => ⟨rfl, by simp [toPy, PyData.depth]⟩
  | _, .str x, h => ⟨by simpa [toPy, PyData.canLay0, PyData.strOk, dsh] using h, by simp [toPy, PyData.depth]⟩
  | 0, .tup _, h => by simp [dsh] at h
  | 0, .lst _, h => by simp [dsh] at h
  | k + 1, .tup ds, h => by
    obtain ⟨h1, h2⟩ := lays_of k ds (by simpa [dsh] using h)
    exact ⟨by simpa [toPy, PyData.canLay0] using h1, by simp [toPy, PyData.depth]; omega⟩
  | k + 1, .lst ds, h => by
    obtain ⟨h1, h2⟩ := lays_of k ds (by simpa [dsh] using h)
    exact ⟨by simpa [toPy, PyData.canLay0] using h1, by simp [toPy, PyData.depth]; omega⟩
  | _, .scr _, h => by simp [dsh] at h
theorem lays_of : ∀ (k : Nat) (ds : List D), dshs k ds = true → PyData.canLayAll0 (toPys ds) = true ∧ PyData.depthAll (toPys ds) ≤ k + 1
  | _, [], _ => ⟨rfl, by simp [toPys, PyData.depthAll]⟩
  | k, d :: ds, h => by
    have h' := (Bool.and_eq_true_iff.mp (by simpa [dshs] using h))
    obtain ⟨a1, a2⟩ := lay_of k d h'.1
    obtain ⟨b1, b2⟩ := lays_of k ds h'.2
    refine ⟨by simp [toPys, PyData.canLayAll0, a1, b1], ?_⟩
    simp [toPys, PyData.depthAll]; omega
end
theorem shaped_of {d : D} (h : dsh 8 d = true) : SeqAt.shaped (toPy d) = true := by
  obtain ⟨a, b⟩ := lay_of 8 d h
  unfold SeqAt.shaped
  rw [a, decide_eq_true (by omega)]
  rfl
mutual
theorem deq_of : ∀ (k : Nat) (x y : D), dsh k x = true → dsh k y = true → PyData.eqv (toPy x) (toPy y) = deq x y
  | k, .tup xs, .tup ys, hx, hy => by
    cases k with
    | zero => simp [dsh] at hx
    | succ k => simpa [toPy, PyData.eqv, deq] using deqs_of k xs ys (by simpa [dsh] using hx) (by simpa [dsh] using hy)
  | k, .lst xs, .lst ys, hx, hy => by
    cases k with
    | zero => simp [dsh] at hx
    | succ k => simpa [toPy, PyData.eqv, deq] using deqs_of k xs ys (by simpa [dsh] using hx) (by simpa [dsh] using hy)
  | _, .scr _, _, hx, _ => by simp [dsh] at hx
  | _, _, .scr _, _, hy => by simp [dsh] at hy
  | _, .non, y, _, hy => by cases y <;> first | rfl | simp [dsh] at hy
  | _, .bl a, y, _, hy => by cases y <;> first | rfl | simp [dsh] at hy
  | _, .int a, y, _, hy => by cases y <;> first | rfl | simp [dsh] at hy
  | _, .str a, y, _, hy => by cases y <;> first | rfl | simp [dsh] at hy
  | _, .tup _, .non, _, _ => rfl
  | _, .tup _, .bl _, _, _ => rfl
  | _, .tup _, .int _, _, _ => rfl
  | _, .tup _, .str _, _, _ => rfl
  | _, .tup _, .lst _, _, _ => rfl
  | _, .lst _, .non, _, _ => rfl
  | _, .lst _, .bl _, _, _ => rfl
  | _, .lst _, .int _, _, _ => rfl
  | _, .lst _, .str _, _, _ => rfl
  | _, .lst _, .tup _, _, _ => rfl
theorem deqs_of : ∀ (k : Nat) (xs ys : List D), dshs k xs = true → dshs k ys = true → PyData.eqvAll (toPys xs) (toPys ys) = deqs xs ys
  | _, [], [], _, _ => rfl
  | _, [], _ :: _, _, _ => rfl
  | _, _ :: _, [], _, _ => rfl
  | k, x :: xs, y :: ys, hx, hy => by
    have hx' := (Bool.and_eq_true_iff.mp (by simpa [dshs] using hx))
    have hy' := (Bool.and_eq_true_iff.mp (by simpa [dshs] using hy))
    simp [toPys, PyData.eqvAll, deqs, deq_of k x y hx'.1 hy'.1, deqs_of k xs ys hx'.2 hy'.2]
end

section
variable {X : Cx} {p q : Bool} {e a b c : Expr} {es : List Expr} {f g h : Ee} {n m : En} {pos : Pos} {K : PySem.W.Frag} {F : Fm} {r : Env} {σ : L2.St} {Hi H Hi' H' : Hp}
theorem ne_eq : NoEx2 gEq := fun x y c e => by unfold gEq at e; split at e <;> cases e
theorem ne_ne : NoEx2 gNe := fun x y c e => by unfold gNe at e; split at e <;> cases e
theorem o_eq : Op2 K p q (rEqD K) gEq := fun x y z v u Hi H Q e s rv ru w => by
  unfold gEq at e
  split at e
  · rename_i hh
    cases e
    obtain ⟨h1, h2⟩ := Bool.and_eq_true_iff.mp hh
    refine ⟨toPy x, toPy y, dp_of h1 (rv.rpH s), dp_of h2 (ru.rpH s), shaped_of h1, shaped_of h2, ?_⟩
    rw [deq_of 8 x y h1 h2]
    exact w _ Hi H (Ext.refl s) (.bl _)
  · cases e
theorem o_ne : Op2 K p q (rNeD K) gNe := fun x y z v u Hi H Q e s rv ru w => by
  unfold gNe at e
  split at e
  · rename_i hh
    cases e
    obtain ⟨h1, h2⟩ := Bool.and_eq_true_iff.mp hh
    refine ⟨toPy x, toPy y, dp_of h1 (rv.rpH s), dp_of h2 (ru.rpH s), shaped_of h1, shaped_of h2, ?_⟩
    rw [deq_of 8 x y h1 h2]
    exact w _ Hi H (Ext.refl s) (.bl _)
  · cases e
theorem ge_eq {k : Nat} (hr : Room k X.A) (ha : GE X false a f) (hb : GE X false b g) : GE X p (.Compare a [.Eq] [b] pos) (op2 gEq f g) := ge_cmp (op_eqD hr.units) o_eq ne_eq (nomark _) ha hb
theorem ge_ne {k : Nat} (hr : Room k X.A) (ha : GE X false a f) (hb : GE X false b g) : GE X p (.Compare a [.NotEq] [b] pos) (op2 gNe f g) := ge_cmp (op_neD hr.units) o_ne ne_ne (nomark _) ha hb
/-! ### is None -/
theorem non_iff {d : D} {v : V} (h : RvP K p Hi H d v) : isNon d = decide (v = .non) := by
  rcases h with h | ⟨_, a, xs, ds, rfl, rfl, _⟩
  · cases h <;> simp [isNon]
  · simp [isNon]
theorem ge_isN {j : Nat} {pos' : Pos} (ha : GE X false a f) : GE X p (.Compare a [.Is] [.Constant .none j pos'] pos) (op1 gIsN f) := fun W tk =>
  pe_imp (pe_cmp (pc_isN (ha W tk)) rfl) fun σ H Q ⟨F, ρ, Hi, R, h⟩ => by
    refine ⟨F, ρ, Hi, R, (Po.bind h).imp fun x Hi1 H1 _ e1 k v rv => ?_⟩
    have k := k e1
    show Q (.bl (decide (v = .non))) H1
    rw [← non_iff rv]
    exact k Hi1 H1 (Ext.refl e1.sub) _ (.inl (.bl _))
theorem ge_notN {j : Nat} {pos' : Pos} (ha : GE X false a f) : GE X p (.Compare a [.IsNot] [.Constant .none j pos'] pos) (op1 gNotN f) := fun W tk =>
  pe_imp (pe_cmp (pc_notN (ha W tk)) rfl) fun σ H Q ⟨F, ρ, Hi, R, h⟩ => by
    refine ⟨F, ρ, Hi, R, (Po.bind h).imp fun x Hi1 H1 _ e1 k v rv => ?_⟩
    have k := k e1
    show Q (.bl (!decide (v = .non))) H1
    rw [← non_iff rv]
    exact k Hi1 H1 (Ext.refl e1.sub) _ (.inl (.bl _))
/-! ### items -/
theorem ixN_is (n : Nat) (i : Int) : ixN n i = L2.ixN n i := rfl
theorem atI_rps {ds : List D} {vs : List V} {i : Int} {d : D} (q : Rps K Hi ds vs) (e : atI ds i = some d) : ∃ v, L2.atI vs i = some v ∧ Rp K Hi d v := by
  unfold atI at e
  unfold L2.atI
  rw [← q.length, ← ixN_is]
  cases hx : ixN ds.length i with
  | none => rw [hx] at e; cases e
  | some j => rw [hx] at e; exact q.get e
theorem ne_ix : NoEx2 gIx := fun x y c e => by
  unfold gIx ofO at e
  split at e <;> first | (split at e <;> cases e) | cases e
theorem o_ix : Op2 K false q (rIx K) gIx := fun x y z v u Hi H Q e s rv ru w => by
  unfold gIx at e
  split at e
  · rename_i ds i
    obtain ⟨a, xs, rfl, ha, qs⟩ := rv.lst s
    have ei : u = .int i := ru.int
    subst ei
    unfold ofO at e
    split at e
    · rename_i d hd
      cases e
      obtain ⟨v, hv, rv⟩ := atI_rps qs hd
      exact .inl ⟨a, xs, i, v, rfl, rfl, SqL.of ha, hv, w v Hi H (Ext.refl s) rv⟩
    · cases e
  · rename_i ds i
    obtain ⟨a, xs, rfl, _, ha, qs⟩ := rv.tup s
    have ei : u = .int i := ru.int
    subst ei
    unfold ofO at e
    split at e
    · rename_i d hd
      cases e
      obtain ⟨v, hv, rv⟩ := atI_rps qs hd
      exact .inr (.inl ⟨a, xs, i, v, rfl, rfl, SqT.of ha, hv, w v Hi H (Ext.refl s) rv⟩)
    · cases e
  · rename_i ns i
    obtain ⟨a, rfl, ha, _⟩ := rv.scr s
    have ei : u = .int i := ru.int
    subst ei
    unfold ofO at e
    split at e
    · rename_i d hd
      cases e
      obtain ⟨v, hv, rv⟩ := atI_rps (Rps.ofInts (K := K) (H := Hi) ns) hd
      exact .inl ⟨a, _, i, v, rfl, rfl, ha, hv, w v Hi H (Ext.refl s) rv⟩
    · cases e
  · cases e
theorem ge_ix (hs : PlainIx b) (ha : GE X false a f) (hb : GE X true b g) : GE X p (.Subscript a b pos) (op2 gIx f g) := fun W tk => pe_imp (pe_ix ix_seq (ha W tk) (hb W tk) hs) (t_op2 o_ix ne_ix)
theorem ne_ixS : NoEx2 gIxS := fun x y c e => by
  unfold gIxS at e
  split at e
  · split at e
    · split at e <;> cases e
    · cases e
  · cases e
theorem o_ixS : Op2 K p q rIxS gIxS := fun x y z v u Hi H Q e s rv ru w => by
  unfold gIxS at e
  split at e
  · rename_i t i
    split at e
    · rename_i hl
      split at e
      · rename_i c hc
        cases e
        exact ⟨t, i, c, rv.str, ru.int, le_line hl, hc, w _ Hi H (Ext.refl s) (.str _)⟩
      · cases e
    · cases e
  · cases e
theorem ge_ixS (hs : PlainIx b) (ha : GE X true a f) (hb : GE X true b g) : GE X p (.Subscript a b pos) (op2 gIxS f g) := fun W tk => pe_imp (pe_ix ix_str (ha W tk) (hb W tk) hs) (t_op2 o_ixS ne_ixS)

/-! ### tests -/
theorem po_b {W : WX} {x : D} {v : V} {k : Bool → Hp → Hp → Prop} (rv : RvP X.K p Hi H x v) (h : Po X W σ Hi H (asB x) k) : ∃ c, v = .bl c ∧ x = .bl c := by
  cases x with
  | bl b => exact ⟨b, rv.bl, rfl⟩
  | _ => exact h.elim
theorem gt_b (ha : GE X true a f) (he : ∀ whole, isTrue a X.env whole = (do let v ← whole; standAt a.pos; holding [v] (truthy v)) := by intro _; rfl) : GT X a (tBl f) := fun W tk =>
  pt_imp (pt_val (ha W tk) he) fun σ H Q ⟨F, ρ, Hi, R, h⟩ => by
    refine ⟨F, ρ, Hi, R, (Po.bind h).imp fun x Hi1 H1 _ e1 k v rv => ?_⟩
    have k := k e1
    obtain ⟨c, rfl, rfl⟩ := po_b rv k
    exact ⟨c, rfl, k Hi1 H1 (Ext.refl e1.sub)⟩
theorem gt_tru (ha : GE X false a f) (he : ∀ whole, isTrue a X.env whole = (do let v ← whole; standAt a.pos; holding [v] (truthy v)) := by intro _; rfl) : GT X a (tOf f) := fun W tk =>
  pt_imp (pt_truth (ha W tk) he) fun σ H Q ⟨F, ρ, Hi, R, h⟩ => by
    refine ⟨F, ρ, Hi, R, (Po.bind h).imp fun x Hi1 H1 _ e1 k v rv => ?_⟩
    have k := k e1
    have fin : ∀ c, truth x = .ok c → Q c H1 := fun c hc => by rw [hc] at k; exact k Hi1 H1 (Ext.refl e1.sub)
    cases x with
    | non => rw [rv.non]; exact ⟨false, rfl, fin _ rfl⟩
    | bl b => rw [rv.bl]; exact ⟨b, rfl, fin _ rfl⟩
    | int i => rw [rv.int]; exact ⟨_, rfl, fin _ rfl⟩
    | str z =>
      rw [rv.str]
      unfold truth at k fin
      by_cases hl : z.length ≤ lim
      · simp only [if_pos hl] at fin
        exact ⟨_, ⟨le_line hl, rfl⟩, fin _ rfl⟩
      · simp only [if_neg hl] at k
        exact k.elim
    | lst ds =>
      obtain ⟨a, xs, rfl, hx, qs⟩ := rv.lst e1.sub
      have e : ds.isEmpty = xs.isEmpty := by
        have := qs.length
        cases ds <;> cases xs <;> simp_all
      exact ⟨_, .inl ⟨xs, SqL.of hx, rfl⟩, fin _ (by show Rs.ok (!ds.isEmpty) = _; rw [e])⟩
    | tup ds =>
      obtain ⟨a, xs, rfl, _, hx, qs⟩ := rv.tup e1.sub
      have e : ds.isEmpty = xs.isEmpty := by
        have := qs.length
        cases ds <;> cases xs <;> simp_all
      exact ⟨_, .inr (.inl ⟨xs, SqT.of hx, rfl⟩), fin _ (by show Rs.ok (!ds.isEmpty) = _; rw [e])⟩
    | scr ns => exact k.elim
    | fn t ds => exact k.elim
theorem gt_not {t : Et} (h : GT X a t) : GT X (.UnaryOp .Not a pos) (tNot t) := fun W tk => pt_imp (L2.pt_not (h W tk)) fun σ H Q ⟨F, ρ, Hi, R, h⟩ => ⟨F, ρ, Hi, R, Po.map h⟩
theorem gt_w {t : Et} (h : GW X e t) : GT X e t := fun W tk => (h W tk).pt
theorem gw_and1 {t : Et} (h : GT X a t) : GW X (.BoolOp .And [a] pos) t := fun W tk => pw_and1 (h W tk)
theorem gw_or1 {t : Et} (h : GT X a t) : GW X (.BoolOp .Or [a] pos) t := fun W tk => pw_or1 (h W tk)
theorem gw_and {t u : Et} {rest : List Expr} (h : GT X a t) (h2 : GW X (.BoolOp .And (b :: rest) pos) u) : GW X (.BoolOp .And (a :: b :: rest) pos) (tAnd t u) := fun W tk =>
  pw_imp (L2.pw_and (h W tk) (h2 W tk)) fun σ H Q ⟨F, ρ, Hi, R, h⟩ => by
    refine ⟨F, ρ, Hi, R, (Po.bind h).imp fun c Hi1 H1 _ e1 k => ?_⟩
    have k := k e1
    cases c with
    | true => exact ⟨F, ρ, Hi1, R.ext e1, k⟩
    | false => exact k Hi1 H1 (Ext.refl e1.sub)
theorem gw_or {t u : Et} {rest : List Expr} (h : GT X a t) (h2 : GW X (.BoolOp .Or (b :: rest) pos) u) : GW X (.BoolOp .Or (a :: b :: rest) pos) (tOr t u) := fun W tk =>
  pw_imp (L2.pw_or (h W tk) (h2 W tk)) fun σ H Q ⟨F, ρ, Hi, R, h⟩ => by
    refine ⟨F, ρ, Hi, R, (Po.bind h).imp fun c Hi1 H1 _ e1 k => ?_⟩
    have k := k e1
    cases c with
    | false => exact ⟨F, ρ, Hi1, R.ext e1, k⟩
    | true => exact k Hi1 H1 (Ext.refl e1.sub)
/-- .. as values -/
theorem ge_one {op} (h : GE X p a f) : GE X p (.BoolOp op [a] pos) f := fun W tk => pe_one (h W tk)
theorem ge_and {rest : List Expr} (ha : GE X true a f) (hb : GE X p (.BoolOp .And (b :: rest) pos) g) : GE X p (.BoolOp .And (a :: b :: rest) pos) (eAnd f g) := fun W tk =>
  pe_imp (L2.pe_and (ha W tk) (hb W tk)) fun σ H Q ⟨F, ρ, Hi, R, h⟩ => by
    refine ⟨F, ρ, Hi, R, (Po.bind h).imp fun x Hi1 H1 _ e1 k v rv => ?_⟩
    have k := Po.bind (k e1)
    obtain ⟨c, rfl, rfl⟩ := po_b rv k
    have k := k Hi1 H1 (Ext.refl e1.sub) (Ext.refl e1.sub)
    refine ⟨c, rfl, ?_⟩
    cases c with
    | true => exact ⟨F, ρ, Hi1, R.ext e1, k⟩
    | false => exact k Hi1 H1 (Ext.refl e1.sub) _ (.inl (.bl _))
theorem ge_or {rest : List Expr} (ha : GE X true a f) (hb : GE X p (.BoolOp .Or (b :: rest) pos) g) : GE X p (.BoolOp .Or (a :: b :: rest) pos) (eOr f g) := fun W tk =>
  pe_imp (L2.pe_or (ha W tk) (hb W tk)) fun σ H Q ⟨F, ρ, Hi, R, h⟩ => by
    refine ⟨F, ρ, Hi, R, (Po.bind h).imp fun x Hi1 H1 _ e1 k v rv => ?_⟩
    have k := Po.bind (k e1)
    obtain ⟨c, rfl, rfl⟩ := po_b rv k
    have k := k Hi1 H1 (Ext.refl e1.sub) (Ext.refl e1.sub)
    refine ⟨c, rfl, ?_⟩
    cases c with
    | false => exact ⟨F, ρ, Hi1, R.ext e1, k⟩
    | true => exact k Hi1 H1 (Ext.refl e1.sub) _ (.inl (.bl _))
theorem ge_not (ha : GE X true a f) : GE X p (.UnaryOp .Not a pos) (eNot f) := fun W tk =>
  pe_imp (L2.pe_not (ha W tk)) fun σ H Q ⟨F, ρ, Hi, R, h⟩ => by
    refine ⟨F, ρ, Hi, R, (Po.bind h).imp fun x Hi1 H1 _ e1 k v rv => ?_⟩
    have k := Po.bind (k e1)
    obtain ⟨c, rfl, rfl⟩ := po_b rv k
    have k := k Hi1 H1 (Ext.refl e1.sub) (Ext.refl e1.sub)
    exact ⟨c, rfl, k Hi1 H1 (Ext.refl e1.sub) _ (.inl (.bl _))⟩
/-- a op b op' c -/
theorem ge_chain {op op' : CmpOp} {r r' : R2} {g1 g2 : D → D → Rs D} (ho : OpR X (compareOp op) r) (ho' : OpR X (compareOp op') r') (o1 : Op2 X.K true true r g1) (n1 : NoEx2 g1) (o2 : Op2 X.K true true r' g2) (n2 : NoEx2 g2)
    (ha : GE X true a f) (hb : GE X true b g) (hc : GE X true c h) (hm : lastMarks [op, op'] [b, c] = false := by with_unfolding_all rfl) : GE X p (.Compare a [op, op'] [b, c] pos) (eChain g1 g2 f g h) := fun W tk =>
  pe_imp (pe_chain ho ho' (ha W tk) (hb W tk) (hc W tk) hm) fun σ H Q ⟨F, ρ, Hi, R, h⟩ => by
    refine ⟨F, ρ, Hi, R, (Po.bind h).imp fun x Hi1 H1 _ e1 k v rv => ?_⟩
    refine ⟨F, ρ, Hi1, R.ext e1, (Po.bind (k e1)).imp fun y Hi2 H2 _ e2 k u ru => ?_⟩
    have k := Po.bind (k e2)
    cases e : g1 x y with
    | ok z =>
      rw [e] at k
      refine o1 x y z v u Hi2 H2 _ e e2.sub (rv.ext e2) ru fun w Hi3 H3 e3 rw' => ?_
      have k := Po.bind (k Hi3 H3 e3 e3)
      obtain ⟨d, rfl, rfl⟩ := po_b (p := true) (.inl rw') k
      have k := k Hi3 H3 (Ext.refl e3.sub) (Ext.refl e3.sub)
      refine ⟨d, rfl, ?_⟩
      cases d with
      | true =>
        refine ⟨F, ρ, Hi3, ((R.ext e1).ext e2).ext e3, (Po.bind k).imp fun z Hi4 H4 _ e4 k w rw' => ?_⟩
        exact Po.op2 o2 n2 e4.sub ((ru.ext e3).ext e4) rw' (k e4)
      | false => exact k Hi3 H3 (Ext.refl e3.sub) _ (.inl (.bl _))
    | ex c => exact absurd e (n1 x y c)
    | bad => rw [e] at k; exact k.elim
theorem ge_chLL (ha : GE X true a f) (hb : GE X true b g) (hc : GE X true c h) (hm : lastMarks [.LtE, .LtE] [b, c] = false := by with_unfolding_all rfl) : GE X p (.Compare a [.LtE, .LtE] [b, c] pos) (eChain gLe gLe f g h) :=
  ge_chain op_le op_le o_le ne_gI o_le ne_gI ha hb hc hm

/-! ### arguments, displays, calls -/
theorem ga_nil : GA X [] aNil := fun W tk => pa_imp pa_nil fun σ H Q ⟨F, ρ, Hi, R, h⟩ => h Hi H R.rfl' _ .nil
theorem ga_cons (ha : GE X false e f) (hr : GA X es n) (hs : starEach (e :: es) X.env = (false, eval e X.env) :: starEach es X.env := by rfl) : GA X (e :: es) (aCons f n) := fun W tk =>
  pa_imp (pa_cons (ha W tk) (hr W tk) hs) fun σ H Q ⟨F, ρ, Hi, R, h⟩ => by
    refine ⟨F, ρ, Hi, R, (Po.bind h).imp fun x Hi1 H1 _ e1 k v rv => ?_⟩
    refine ⟨F, ρ, Hi1, R.ext e1, (Po.bind (k e1)).imp fun ys Hi2 H2 _ e2 k vs rvs => ?_⟩
    exact k e2 Hi2 H2 (Ext.refl e2.sub) _ (.cons ((rv.ext e2).rpH e2.sub) rvs)
theorem gp_nil : GAp X [] aNil := fun W tk => pa_imp pa_nil fun σ H Q ⟨F, ρ, Hi, R, h⟩ => h Hi H R.rfl' _ .nil
theorem gp_cons (ha : GE X true e f) (hr : GAp X es n) (hs : starEach (e :: es) X.env = (false, eval e X.env) :: starEach es X.env := by rfl) : GAp X (e :: es) (aCons f n) := fun W tk =>
  pa_imp (pa_cons (ha W tk) (hr W tk) hs) fun σ H Q ⟨F, ρ, Hi, R, h⟩ => by
    refine ⟨F, ρ, Hi, R, (Po.bind h).imp fun x Hi1 H1 _ e1 k v rv => ?_⟩
    refine ⟨F, ρ, Hi1, R.ext e1, (Po.bind (k e1)).imp fun ys Hi2 H2 _ e2 k vs rvs => ?_⟩
    exact k e2 Hi2 H2 (Ext.refl e2.sub) _ (.cons (rv.ext e2).rp rvs)
theorem tup_new {p' : Addr} {xs : List V} {ds : List D} (s : Sm Hi H) (hp : H p' = none) (q : Rps K Hi ds xs) : Rp K (upd Hi p' (.tup xs)) (.tup ds) (.ref p') :=
  .tup upd_same (q.same (Ext.tup s hp).hi)
theorem ge_tup {x1 : Nat} (h : GAp X es n) : GE X p (.Tuple es x1 pos) (eTup n) := fun W tk =>
  pe_imp (pe_tup (h W tk)) fun σ H Q ⟨F, ρ, Hi, R, h⟩ => by
    refine ⟨F, ρ, Hi, R, (Po.bind h).imp fun ds Hi1 H1 _ e1 k vs rvs => ?_⟩
    have k := k e1
    split at k
    · rename_i hl
      refine ⟨by rw [← rvs.length]; exact le_line hl, fun p hp => ?_⟩
      exact k _ _ (Ext.tup e1.sub hp) _ (.inl (tup_new e1.sub hp rvs))
    · exact k.elim
theorem gn_lst (h : GAp X es n) : GN X (.List es pos) (nLst n) := fun W tk =>
  pe_imp (pe_lst (h W tk)) fun σ H Q ⟨F, ρ, Hi, R, h⟩ => by
    refine ⟨F, ρ, Hi, R, (Po.bind h).imp fun ds Hi1 H1 _ e1 k vs rvs => ?_⟩
    have k := k e1
    split at k
    · rename_i hl
      refine ⟨by rw [← rvs.length]; exact le_line hl, fun p hp => ?_⟩
      exact k Hi1 _ (Ext.lst e1.sub hp) p vs (Sm.free e1.h hp) upd_same (e1.sub.fr p hp) rvs
    · exact k.elim
end

/-! ### what a def keeps -/
/-- the heap has grown -/
structure Gr (H H' : Hp) : Prop where
  sm : Sm H H'
  tab : Tbs H → Tbs H'
theorem Ext.gr {Hi H Hi' H' : Hp} (x : Ext Hi H Hi' H') : Gr H H' := ⟨x.h, x.tab⟩
theorem Gr.refl (H : Hp) : Gr H H := ⟨Sm.refl H, id⟩
theorem Gr.trans {H H1 H2 : Hp} (a : Gr H H1) (b : Gr H1 H2) : Gr H H2 := ⟨a.sm.trans b.sm, fun t => b.tab (a.tab t)⟩
/-- a def's promise: F is what it reckons -/
def spF (K : PySem.W.Frag) (mg : Str → Option Value) (F : List D → Ro) : Sp := fun vs H Q E => Tbs H ∧ ∃ ds, Rps K H ds vs ∧ match F ds with
  | .rt d => ∀ v H', Gr H H' → Rp K (vw H H') d v → Q v H'
  | .rn es => ∀ a xs H', Gr H H' → H a = none → H' a = some (.lst xs) → Rps K (rm a (vw H H')) es xs → Q (.ref a) H'
  | .ex c => ∀ H' u, Gr H H' → mg (Str.ofString c) = some u → E u none H'
  | .bad => False
section
variable {X : Cx} {p q : Bool} {e a b c : Expr} {es : List Expr} {f g h : Ee} {n m : En} {pos : Pos} {K : PySem.W.Frag} {F : Fm} {r : Env} {σ : L2.St} {Hi H Hi' H' : Hp}
theorem same_vw : Sm (vw H H') H' := .of fun a o e => (of_vw e).1
/-- behind a call: what came back is seen -/
theorem Ext.back (s : Sm Hi H) (t : Gr H H') : Ext Hi H (orH Hi (vw H H')) H' ∧ Sm (vw H H') (orH Hi (vw H H')) := by
  have a : Sm Hi H' := s.trans t.sm
  refine ⟨⟨orH_l, t.sm, orH_sub a same_vw, fun b xs e nn => ?_, t.tab⟩, orH_r a same_vw⟩
  rw [orH_no nn]
  unfold vw
  rw [e]
theorem Ext.backN {a : Addr} (s : Sm Hi H) (t : Gr H H') (ha : H a = none) : Ext Hi H (orH Hi (rm a (vw H H'))) H' ∧ Sm (rm a (vw H H')) (orH Hi (rm a (vw H H'))) ∧ orH Hi (rm a (vw H H')) a = none := by
  have b : Sm Hi H' := s.trans t.sm
  have c : Sm (rm a (vw H H')) H' := rm_sub.trans same_vw
  refine ⟨⟨orH_l, t.sm, orH_sub b c, fun b xs e nn => ?_, t.tab⟩, orH_r b c, ?_⟩
  · rw [orH_no nn]
    unfold rm
    split
    · rfl
    · unfold vw
      rw [e]
  · rw [orH_no (s.fr a ha)]
    unfold rm; rw [if_pos rfl]
theorem calls_E {W : WX} {G : List D → Ro} {ds : List D} {vs : List V} {Q : VK} {E : XK} (hE : ∀ cls H', W cls none σ H' → E cls none H') (s : Sm Hi H) (tb : Tbs H) (rv : Rps X.K H ds vs)
    (h : Po X W σ Hi H (roE (G ds)) fun d Hi' H' => ∀ v, RvP X.K p Hi' H' d v → Q v H') : spF X.K X.mg G vs H Q E := by
  refine ⟨tb, ds, rv, ?_⟩
  revert h
  cases G ds with
  | rt d =>
    intro h v H' t rv'
    obtain ⟨e1, e2⟩ := Ext.back s t
    exact h _ _ e1 v (.inl (rv'.same e2))
  | rn es =>
    intro h a xs H' t ha hx rv'
    obtain ⟨e1, e2, e3⟩ := Ext.backN s t ha
    exact h (upd (orH Hi (rm a (vw H H'))) a (.lst xs)) H' (e1.see ha hx e3) _ (.inl (.lst upd_same ((rv'.same e2).same (Sm.new e3))))
  | ex c =>
    intro h H' u t hu
    obtain ⟨e1, e2⟩ := Ext.back s t
    exact hE _ _ (h _ _ u e1 hu)
  | bad => exact id
theorem calls_N {W : WX} {G : List D → Ro} {ds : List D} {vs : List V} {Q : VK} {E : XK} (hE : ∀ cls H', W cls none σ H' → E cls none H') (s : Sm Hi H) (tb : Tbs H) (rv : Rps X.K H ds vs)
    (h : Po X W σ Hi H (roN (G ds)) fun ds Hi' H' => ∀ a xs, H a = none → H' a = some (.lst xs) → Hi' a = none → Rps X.K Hi' ds xs → Q (.ref a) H') : spF X.K X.mg G vs H Q E := by
  refine ⟨tb, ds, rv, ?_⟩
  revert h
  cases G ds with
  | rt d => exact fun h => h.elim
  | rn es =>
    intro h a xs H' t ha hx rv'
    obtain ⟨e1, e2, e3⟩ := Ext.backN s t ha
    exact h _ _ e1 a xs ha hx e3 (rv'.same e2)
  | ex c =>
    intro h H' u t hu
    obtain ⟨e1, e2⟩ := Ext.back s t
    exact hE _ _ (h _ _ u e1 hu)
  | bad => exact id
end
end GM

/-! GMd: calls, built-ins, what is walked, comprehensions. -/
namespace GM
open PySem PySem.Spec PyProof.Rows L2
variable [Tb] [Md]

section
variable {X : Cx} {p q : Bool} {e a b c : Expr} {es : List Expr} {f g h : Ee} {n m : En} {pos : Pos} {K : PySem.W.Frag} {F : Fm} {r : Env} {σ : L2.St} {Hi H Hi' H' : Hp}
/-- f(e, ..), f a def of the text -/
theorem ge_call {k : Nat} {fa : Addr} {fd : FuncData} {ps : List Str} {G : List D → Ro} {x : Str} {p' : Pos} (Fo : FnOk X.prog X.w X.K X.mg X.base (CXm X.prog X.w) k fa fd ps (spF X.K X.mg G)) (hr : Room k X.A) (hg : Gl X x) (hm : X.mg x = some (.ref fa))
    (hk : PySem.W.keepIn X.K (.ref fa) = true) (hb : Binds X.K fd ps []) (ha : GA X (e :: es) n) (hdb : (x == ("__debug__" : Str)) = false := by decide)
    (he : starEach (e :: es) X.env = (false, eval e X.env) :: starEach es X.env := by rfl) (hpl : (backTo pos (starEach es X.env)).any (·.1) = false := by rfl) : GE X p (.Call (.Name x p') (e :: es) [] pos) (eCall G n) := fun W tk =>
  pe_imp (pe_callS Fo hr hg hm hk hb (fun σ => passM tk σ) (ha W tk) hdb he hpl) fun σ H Q ⟨F, ρ, Hi, R, h⟩ => by
    refine ⟨F, ρ, Hi, R, (Po.bind h).imp fun ds Hi1 H1 _ e1 k vs rvs => ?_⟩
    exact calls_E (W := W) (σ := σ) (fun _ _ w => w) e1.sub (R.ext e1).tabs rvs (k e1)
theorem gn_call {k : Nat} {fa : Addr} {fd : FuncData} {ps : List Str} {G : List D → Ro} {x : Str} {p' : Pos} (Fo : FnOk X.prog X.w X.K X.mg X.base (CXm X.prog X.w) k fa fd ps (spF X.K X.mg G)) (hr : Room k X.A) (hg : Gl X x) (hm : X.mg x = some (.ref fa))
    (hk : PySem.W.keepIn X.K (.ref fa) = true) (hb : Binds X.K fd ps []) (ha : GA X (e :: es) n) (hdb : (x == ("__debug__" : Str)) = false := by decide)
    (he : starEach (e :: es) X.env = (false, eval e X.env) :: starEach es X.env := by rfl) (hpl : (backTo pos (starEach es X.env)).any (·.1) = false := by rfl) : GN X (.Call (.Name x p') (e :: es) [] pos) (nCall G n) := fun W tk =>
  pe_imp (pe_callS Fo hr hg hm hk hb (fun σ => passM tk σ) (ha W tk) hdb he hpl) fun σ H Q ⟨F, ρ, Hi, R, h⟩ => by
    refine ⟨F, ρ, Hi, R, (Po.bind h).imp fun ds Hi1 H1 _ e1 k vs rvs => ?_⟩
    refine calls_N (W := W) (σ := σ) (fun _ _ w => w) e1.sub (R.ext e1).tabs rvs ((k e1).imp fun es Hi2 H2 _ _ k a xs hn => k a xs (Sm.free e1.h hn))

/-! ### built-ins of one argument, by values -/
def OpN (K : PySem.W.Frag) (r : V → Hp → VK → Prop) (g : D → Rs (List D)) : Prop := ∀ (x : D) (zs : List D) (v : V) (Hi H : Hp) (Q : VK), g x = .ok zs → Sm Hi H → RvP K false Hi H x v →
  (∀ a xs Hi' H', Ext Hi H Hi' H' → H a = none → H' a = some (.lst xs) → Hi' a = none → Rps K Hi' zs xs → Q (.ref a) H') → r v H Q
def NoExN (g : D → Rs (List D)) : Prop := ∀ x c, g x ≠ .ex c
theorem t_b1 {W : WX} {r : List V → Hp → VK → Prop} {g' : D → Rs D} {p' : Bool} (o : Op1 X.K false (fun v H Q => r [v] H Q) g') (ne : NoEx1 g') : ∀ σ H Q, tE X W p' (op1 g' f) σ H Q → tCB r (tCons (tE X W false f) tNil) σ H Q := fun σ H Q ⟨F, ρ, Hi, R, h⟩ => by
  refine ⟨F, ρ, Hi, R, (Po.bind h).imp fun x Hi1 H1 _ e1 k v rv => ?_⟩
  have k := k e1
  show r [v] H1 Q
  cases e : g' x with
  | ok z => rw [e] at k; exact o x z v Hi1 H1 Q e e1.sub rv fun w Hi' H' x' rw' => k Hi' H' x' w (.inl rw')
  | ex c => exact absurd e (ne x c)
  | bad => rw [e] at k; exact k.elim
theorem t_n1 {W : WX} {r : List V → Hp → VK → Prop} {g' : D → Rs (List D)} (o : OpN X.K (fun v H Q => r [v] H Q) g') (ne : NoExN g') : ∀ σ H Q, tN X W (nOp1 g' f) σ H Q → tCB r (tCons (tE X W false f) tNil) σ H Q := fun σ H Q ⟨F, ρ, Hi, R, h⟩ => by
  refine ⟨F, ρ, Hi, R, (Po.bind h).imp fun x Hi1 H1 _ e1 k v rv => ?_⟩
  have k := k e1
  show r [v] H1 Q
  cases e : g' x with
  | ok z => rw [e] at k; exact o x z v Hi1 H1 Q e e1.sub rv fun a xs Hi' H' x' hn ha hi rw' => k Hi' H' x' a xs (Sm.free e1.h hn) ha hi rw'
  | ex c => exact absurd e (ne x c)
  | bad => rw [e] at k; exact k.elim
section
variable {x : Str} {px : Pos} {id T : String} {r : List V → Hp → VK → Prop} {g' : D → Rs D} {gl : D → Rs (List D)}
theorem ge_b1 (hc : CallR X (.builtin id) r) (o : Op1 X.K false (fun v H Q => r [v] H Q) g') (ne : NoEx1 g') (hg : Gl X x) (hm : X.mg x = none) (hv : bootBuiltins x = some (.builtin id)) (ha : GE X false a f) (hn : x ≠ "__name__" := by decide) (hdb : (x == ("__debug__" : Str)) = false := by decide)
    (he : starEach [a] X.env = (false, eval a X.env) :: starEach [] X.env := by rfl) (hpl : (backTo pos (starEach [] X.env)).any (·.1) = false := by rfl) : GE X p (.Call (.Name x px) [a] [] pos) (op1 g' f) := fun W tk =>
  pe_imp (pe_callB hc hg hm hv (pa_cons (ha W tk) pa_nil he) hn hdb he hpl) (t_b1 o ne)
theorem ge_ty1 (hc : CallR X (.type T) r) (o : Op1 X.K false (fun v H Q => r [v] H Q) g') (ne : NoEx1 g') (hg : Gl X x) (hm : X.mg x = none) (hv : bootBuiltins x = some (.type T)) (ha : GE X false a f) (hn : x ≠ "__name__" := by decide) (hdb : (x == ("__debug__" : Str)) = false := by decide)
    (he : starEach [a] X.env = (false, eval a X.env) :: starEach [] X.env := by rfl) (hpl : (backTo pos (starEach [] X.env)).any (·.1) = false := by rfl) : GE X p (.Call (.Name x px) [a] [] pos) (op1 g' f) := fun W tk =>
  pe_imp (pe_callTy hc hg hm hv (pa_cons (ha W tk) pa_nil he) hn hdb he hpl) (t_b1 o ne)
theorem gn_b1 (hc : CallR X (.builtin id) r) (o : OpN X.K (fun v H Q => r [v] H Q) gl) (ne : NoExN gl) (hg : Gl X x) (hm : X.mg x = none) (hv : bootBuiltins x = some (.builtin id)) (ha : GE X false a f) (hn : x ≠ "__name__" := by decide) (hdb : (x == ("__debug__" : Str)) = false := by decide)
    (he : starEach [a] X.env = (false, eval a X.env) :: starEach [] X.env := by rfl) (hpl : (backTo pos (starEach [] X.env)).any (·.1) = false := by rfl) : GN X (.Call (.Name x px) [a] [] pos) (nOp1 gl f) := fun W tk =>
  pe_imp (pe_callB hc hg hm hv (pa_cons (ha W tk) pa_nil he) hn hdb he hpl) (t_n1 o ne)
theorem gn_ty1 (hc : CallR X (.type T) r) (o : OpN X.K (fun v H Q => r [v] H Q) gl) (ne : NoExN gl) (hg : Gl X x) (hm : X.mg x = none) (hv : bootBuiltins x = some (.type T)) (ha : GE X false a f) (hn : x ≠ "__name__" := by decide) (hdb : (x == ("__debug__" : Str)) = false := by decide)
    (he : starEach [a] X.env = (false, eval a X.env) :: starEach [] X.env := by rfl) (hpl : (backTo pos (starEach [] X.env)).any (·.1) = false := by rfl) : GN X (.Call (.Name x px) [a] [] pos) (nOp1 gl f) := fun W tk =>
  pe_imp (pe_callTy hc hg hm hv (pa_cons (ha W tk) pa_nil he) hn hdb he hpl) (t_n1 o ne)
end
theorem none_hi (s : Sm Hi H) {a : Addr} (h : H a = none) : Hi a = none := s.fr a h
/-! ### len -/
theorem ne_len : NoEx1 gLen := fun x c e => by unfold gLen at e; split at e <;> first | (split at e <;> cases e) | cases e
theorem o_len : Op1 K false (fun v H Q => ∃ x n, [v] = [x] ∧ LenV K x H n ∧ Q (.int n) H) gLen := fun x z v Hi H Q e s rv w => by
  cases x with
  | lst ds =>
    obtain ⟨a, xs, rfl, ha, q⟩ := rv.lst s
    cases e
    exact ⟨_, ds.length, rfl, .inl ⟨xs, SqL.of ha, q.length⟩, w _ Hi H (Ext.refl s) (.int _)⟩
  | tup ds =>
    obtain ⟨a, xs, rfl, _, ha, q⟩ := rv.tup s
    cases e
    exact ⟨_, ds.length, rfl, .inr ⟨xs, SqT.of ha, q.length⟩, w _ Hi H (Ext.refl s) (.int _)⟩
  | scr ns =>
    obtain ⟨a, rfl, ha, _⟩ := rv.scr s
    cases e
    exact ⟨_, ns.length, rfl, .inl ⟨_, ha, by rw [List.length_map]⟩, w _ Hi H (Ext.refl s) (.int _)⟩
  | str t =>
    unfold gLen at e
    simp only at e
    split at e
    · rename_i hl
      cases e
      rw [rv.str]
      exact ⟨_, t.length, rfl, ⟨le_line hl, rfl⟩, w _ Hi H (Ext.refl s) (.int _)⟩
    · cases e
  | _ => cases e
theorem ge_len {px : Pos} (hg : Gl X "len") (hm : X.mg "len" = none) (ha : GE X false a f) (he : starEach [a] X.env = (false, eval a X.env) :: starEach [] X.env := by rfl) (hpl : (backTo pos (starEach [] X.env)).any (·.1) = false := by rfl) : GE X p (.Call (.Name "len" px) [a] [] pos) (op1 gLen f) :=
  ge_b1 call_len o_len ne_len hg hm PySem.boot_len ha (by decide) (by decide) he hpl
/-! ### ints of a list -/
theorem asInts_rps : ∀ {ds : List D} {vs : List V} {ns : List Int}, asInts ds = some ns → Rps K Hi ds vs → vs = ns.map V.int
  | [], _, _, e, .nil => by cases e; rfl
  | .int i :: ds, _, ns, e, .cons r t => by
    unfold asInts at e
    cases h : asInts ds with
    | none => rw [h] at e; cases e
    | some is =>
      rw [h] at e
      cases e
      cases r
      rw [asInts_rps h t]
      rfl
  | .non :: _, _, _, e, _ => by cases e
  | .bl _ :: _, _, _, e, _ => by cases e
  | .str _ :: _, _, _, e, _ => by cases e
  | .tup _ :: _, _, _, e, _ => by cases e
  | .lst _ :: _, _, _, e, _ => by cases e
  | .scr _ :: _, _, _, e, _ => by cases e
  | .fn _ _ :: _, _, _, e, _ => by cases e
theorem withInts_list {α : Type} {x : D} {v : V} {fi : List Int → Rs α} {z : α} (e : withInts x fi = .ok z) (s : Sm Hi H) (rv : RvP K false Hi H x v) :
    ∃ a ns, v = .ref a ∧ (H a = some (.lst (ns.map V.int)) ∨ H a = some (.tup (ns.map V.int))) ∧ fi ns = .ok z := by
  unfold withInts at e
  split at e
  · rename_i ds
    obtain ⟨a, xs, rfl, ha, q⟩ := rv.lst s
    split at e
    · rename_i ns hs
      exact ⟨a, ns, rfl, .inl (by rw [← asInts_rps hs q]; exact ha), e⟩
    · cases e
  · rename_i ds
    obtain ⟨a, xs, rfl, _, ha, q⟩ := rv.tup s
    split at e
    · rename_i ns hs
      exact ⟨a, ns, rfl, .inr (by rw [← asInts_rps hs q]; exact ha), e⟩
    · cases e
  · cases e
theorem ne_withInts {α : Type} {fi : List Int → Rs α} {x : D} {c : String} (h : ∀ ns, fi ns ≠ .ex c) : withInts x fi ≠ .ex c := fun e => by
  unfold withInts at e
  split at e
  · split at e
    · exact h _ e
    · cases e
  · split at e
    · exact h _ e
    · cases e
  · cases e
theorem insI_perm (a : Int) : ∀ l, (insI a l).Perm (a :: l)
  | [] => List.Perm.refl _
  | b :: r => by
    unfold insI
    split
    · exact List.Perm.refl _
    · exact ((insI_perm a r).cons b).trans (List.Perm.swap a b r)
theorem sortI_perm : ∀ l, (sortI l).Perm l
  | [] => List.Perm.refl _
  | a :: r => (insI_perm a _).trans ((sortI_perm r).cons a)
theorem insI_sorted (a : Int) : ∀ l, l.Pairwise (· ≤ ·) → (insI a l).Pairwise (· ≤ ·)
  | [], _ => List.pairwise_singleton _ _
  | b :: r, h => by
    unfold insI
    split
    · rename_i hab
      refine List.pairwise_cons.mpr ⟨fun x hx => ?_, h⟩
      rcases List.mem_cons.mp hx with rfl | hx
      · exact hab
      · exact Int.le_trans hab ((List.pairwise_cons.mp h).1 x hx)
    · rename_i hab
      refine List.pairwise_cons.mpr ⟨fun x hx => ?_, insI_sorted a r (List.pairwise_cons.mp h).2⟩
      rcases List.mem_cons.mp ((insI_perm a r).mem_iff.mp hx) with rfl | hx
      · omega
      · exact (List.pairwise_cons.mp h).1 x hx
theorem sortI_sorted : ∀ l, (sortI l).Pairwise (· ≤ ·)
  | [] => .nil
  | a :: r => insI_sorted a _ (sortI_sorted r)
theorem sorted_unique : ∀ {l m : List Int}, l.Perm m → l.Pairwise (· ≤ ·) → m.Pairwise (· ≤ ·) → l = m
  | [], m, p, _, _ => (List.nil_perm.mp p).symm
  | a :: r, [], p, _, _ => by cases List.perm_nil.mp p
  | a :: r, b :: s, p, h1, h2 => by
    have e : a = b := by
      have h3 := (List.pairwise_cons.mp h1).1
      have h4 := (List.pairwise_cons.mp h2).1
      have m1 : a ∈ b :: s := p.mem_iff.mp List.mem_cons_self
      have m2 : b ∈ a :: r := p.mem_iff.mpr List.mem_cons_self
      rcases List.mem_cons.mp m1 with e | m1
      · exact e
      · rcases List.mem_cons.mp m2 with e | m2
        · exact e.symm
        · have := h3 b m2
          have := h4 a m1
          omega
    subst e
    rw [sorted_unique (List.Perm.cons_inv p) (List.pairwise_cons.mp h1).2 (List.pairwise_cons.mp h2).2]
theorem sortI_is {l m : List Int} (p : l.Perm m) (s : l.Pairwise (· ≤ ·)) : l = sortI m := sorted_unique (p.trans (sortI_perm m).symm) s (sortI_sorted m)
theorem ne_sort : NoExN bSort := fun x c e => ne_withInts (fun ns => by split <;> simp) e
theorem ne_sortL : NoExN (lstOnly bSort) := fun x c e => by cases x <;> first | exact ne_sort _ c e | cases e
theorem o_sortL : OpN K (fun v H Q => rSortedI K [v] H Q) (lstOnly bSort) := fun x zs v Hi H Q e s rv w => by
  cases x with
  | lst ds =>
    obtain ⟨a, xs, rfl, ha, q⟩ := rv.lst s
    have e : bSort (.lst ds) = .ok zs := e
    unfold bSort withInts at e
    simp only at e
    split at e
    · rename_i ns hs
      split at e
      · cases e
        rw [asInts_rps hs q] at ha
        refine ⟨a, ns, rfl, SqL.of ha, fun ns' p pm st hp => ?_⟩
        rw [← sortI_is pm st] at *
        exact w p _ Hi _ (Ext.lst s hp) hp upd_same (none_hi s hp) (Rps.ofInts ns')
      · cases e
    · cases e
  | _ => cases e
theorem gn_sorted {px : Pos} (hg : Gl X "sorted") (hm : X.mg "sorted" = none) (ha : GE X false a f) (he : starEach [a] X.env = (false, eval a X.env) :: starEach [] X.env := by rfl) (hpl : (backTo pos (starEach [] X.env)).any (·.1) = false := by rfl) :
    GN X (.Call (.Name "sorted" px) [a] [] pos) (nOp1 (lstOnly bSort) f) := gn_b1 cr_sortedI o_sortL ne_sortL hg hm (by decide +kernel) ha (by decide) (by decide) he hpl

/-! ### list(x), tuple(x) -/
theorem ne_list : NoExN bList := fun x c e => by cases x <;> cases e
theorem o_list : OpN K (fun v H Q => ∃ p ys, [v] = [.ref p] ∧ (SqL K H p ys ∨ SqT K H p ys) ∧ ∀ l, H l = none → Q (.ref l) (upd H l (.lst ys))) bList := fun x zs v Hi H Q e s rv w => by
  have fin : ∀ {ys : List V}, Rps K Hi zs ys → ∀ l, H l = none → Q (.ref l) (upd H l (.lst ys)) := fun q l hl => w l _ Hi _ (Ext.lst s hl) hl upd_same (none_hi s hl) q
  cases x with
  | lst ds =>
    obtain ⟨a, xs, rfl, ha, q⟩ := rv.lst s
    cases e
    exact ⟨a, xs, rfl, .inl (SqL.of ha), fin q⟩
  | tup ds =>
    obtain ⟨a, xs, rfl, _, ha, q⟩ := rv.tup s
    cases e
    exact ⟨a, xs, rfl, .inr (SqT.of ha), fin q⟩
  | scr ns =>
    obtain ⟨a, rfl, ha, _⟩ := rv.scr s
    cases e
    exact ⟨a, _, rfl, .inl ha, fin (Rps.ofInts ns)⟩
  | _ => cases e
theorem gn_list {px : Pos} (hg : Gl X "list") (hm : X.mg "list" = none) (ha : GE X false a f) (he : starEach [a] X.env = (false, eval a X.env) :: starEach [] X.env := by rfl) (hpl : (backTo pos (starEach [] X.env)).any (·.1) = false := by rfl) :
    GN X (.Call (.Name "list" px) [a] [] pos) (nOp1 bList f) := gn_ty1 call_list_of o_list ne_list hg hm (by decide +kernel) ha (by decide) (by decide) he hpl
theorem ne_tuple : NoEx1 bTuple := fun x c e => by cases x <;> cases e
theorem o_tuple : Op1 K false (fun v H Q => ∃ p ys, [v] = [.ref p] ∧ ((SqL K H p ys ∧ ∀ l, H l = none → Q (.ref l) (upd H l (.tup ys))) ∨ (SqT K H p ys ∧ Q (.ref p) H))) bTuple := fun x z v Hi H Q e s rv w => by
  cases x with
  | lst ds =>
    obtain ⟨a, xs, rfl, ha, q⟩ := rv.lst s
    cases e
    exact ⟨a, xs, rfl, .inl ⟨SqL.of ha, fun l hl => w _ _ _ (Ext.tup s hl) (tup_new s hl q)⟩⟩
  | tup ds =>
    obtain ⟨a, xs, rfl, hi, ha, q⟩ := rv.tup s
    cases e
    exact ⟨a, xs, rfl, .inr ⟨SqT.of ha, w _ Hi H (Ext.refl s) (.tup hi q)⟩⟩
  | _ => cases e
theorem ge_tuple {px : Pos} (hg : Gl X "tuple") (hm : X.mg "tuple" = none) (ha : GE X false a f) (he : starEach [a] X.env = (false, eval a X.env) :: starEach [] X.env := by rfl) (hpl : (backTo pos (starEach [] X.env)).any (·.1) = false := by rfl) :
    GE X p (.Call (.Name "tuple" px) [a] [] pos) (op1 bTuple f) := ge_ty1 call_tuple_of o_tuple ne_tuple hg hm (by decide +kernel) ha (by decide) (by decide) he hpl
/-! ### isinstance(x, T) -/
theorem o_isT {T : String} {b : Bool} (hT : ∀ d : D, kitB (match d with | .non => "NoneType" | .bl _ => "bool" | .int _ => "int" | .str _ => "str" | .tup _ => "tuple" | .lst _ => "list" | .scr _ => "list" | .fn _ _ => "function") T = some (isT T d)) {x : D} {v : V} (s : Sm Hi H) (hfn : isFn x = false) (rv : RvP K false Hi H x v) :
    ∃ t, TyX K H v t ∧ PySem.W.kitOne K t (.type T) = some (isT T x) := by
  have h := hT x
  cases x with
  | non => rw [rv.non]; exact ⟨_, .base .non, kit_ty h⟩
  | bl b => rw [rv.bl]; exact ⟨_, .base (.bl b), kit_ty h⟩
  | int b => rw [rv.int]; exact ⟨_, .base (.int b), kit_ty h⟩
  | str b => rw [rv.str]; exact ⟨_, .base (.str b), kit_ty h⟩
  | tup ds =>
    obtain ⟨a, xs, rfl, _, ha, q⟩ := rv.tup s
    exact ⟨_, .base (.tup ha), kit_ty h⟩
  | lst ds =>
    obtain ⟨a, xs, rfl, ha, q⟩ := rv.lst s
    exact ⟨_, .base (.lst ha), kit_ty h⟩
  | scr ns =>
    obtain ⟨a, rfl, ha, hs⟩ := rv.scr s
    rcases hs with ⟨o, hs⟩ | hs
    · exact ⟨_, .base (.frz (s.frz hs)), kit_ty h⟩
    · rcases hs with (hs | ⟨o, hs⟩) | ⟨o, its, n, hk, hc, _⟩
      · cases hs
      · cases hs
      · exact ⟨_, .kList hk hc, kit_ty h⟩
  | fn t ds => cases hfn
theorem ge_isi {T x : String} {px pt : Pos} (hT : ∀ d : D, kitB (match d with | .non => "NoneType" | .bl _ => "bool" | .int _ => "int" | .str _ => "str" | .tup _ => "tuple" | .lst _ => "list" | .scr _ => "list" | .fn _ _ => "function") T = some (isT T d))
    (hg : Gl X "isinstance") (hm : X.mg "isinstance" = none) (hg2 : Gl X (Str.ofString x)) (hm2 : X.mg (Str.ofString x) = none) (hv2 : bootBuiltins (Str.ofString x) = some (.type T)) (ha : GE X false a f) (hn : (Str.ofString x) ≠ "__name__" := by decide) (hdb : ((Str.ofString x) == ("__debug__" : Str)) = false := by decide)
    (he : starEach [a, .Name (Str.ofString x) pt] X.env = (false, eval a X.env) :: starEach [.Name (Str.ofString x) pt] X.env := by rfl) (he2 : starEach [.Name (Str.ofString x) pt] X.env = (false, eval (.Name (Str.ofString x) pt) X.env) :: starEach [] X.env := by rfl)
    (hpl : (backTo pos (starEach [.Name (Str.ofString x) pt] X.env)).any (·.1) = false := by rfl) :
    GE X p (.Call (.Name "isinstance" px) [a, .Name (Str.ofString x) pt] [] pos) (op1 (gIsT T) f) := fun W tk =>
  pe_imp (pe_callB call_isi hg hm (by decide +kernel) (pa_cons (ha W tk) (pa_cons (pe_bltn (v := .ty T) hg2 hm2 hv2 rfl hn hdb) pa_nil he2) he) (by decide) (by decide) he hpl) fun σ H Q ⟨F, ρ, Hi, R, h⟩ => by
    refine ⟨F, ρ, Hi, R, (Po.bind h).imp fun x Hi1 H1 _ e1 k v rv => ?_⟩
    have k := k e1
    unfold gIsT at k
    cases hfn : isFn x with
    | true => rw [hfn] at k; exact k.elim
    | false =>
      rw [hfn] at k
      obtain ⟨t, ty, hk⟩ := o_isT (b := true) hT e1.sub hfn rv
      exact ⟨v, .ty T, t, .type T, _, rfl, .ty T, ty, hk, k Hi1 H1 (Ext.refl e1.sub) _ (.inl (.bl _))⟩
theorem isT_int : ∀ d : D, kitB (match d with | .non => "NoneType" | .bl _ => "bool" | .int _ => "int" | .str _ => "str" | .tup _ => "tuple" | .lst _ => "list" | .scr _ => "list" | .fn _ _ => "function") "int" = some (isT "int" d) := fun d => by cases d <;> (simp only [isT]; decide +kernel)
theorem isT_bool : ∀ d : D, kitB (match d with | .non => "NoneType" | .bl _ => "bool" | .int _ => "int" | .str _ => "str" | .tup _ => "tuple" | .lst _ => "list" | .scr _ => "list" | .fn _ _ => "function") "bool" = some (isT "bool" d) := fun d => by cases d <;> (simp only [isT]; decide +kernel)
theorem isT_tuple : ∀ d : D, kitB (match d with | .non => "NoneType" | .bl _ => "bool" | .int _ => "int" | .str _ => "str" | .tup _ => "tuple" | .lst _ => "list" | .scr _ => "list" | .fn _ _ => "function") "tuple" = some (isT "tuple" d) := fun d => by cases d <;> (simp only [isT]; decide +kernel)
theorem isT_list : ∀ d : D, kitB (match d with | .non => "NoneType" | .bl _ => "bool" | .int _ => "int" | .str _ => "str" | .tup _ => "tuple" | .lst _ => "list" | .scr _ => "list" | .fn _ _ => "function") "list" = some (isT "list" d) := fun d => by cases d <;> (simp only [isT]; decide +kernel)
theorem isT_str : ∀ d : D, kitB (match d with | .non => "NoneType" | .bl _ => "bool" | .int _ => "int" | .str _ => "str" | .tup _ => "tuple" | .lst _ => "list" | .scr _ => "list" | .fn _ _ => "function") "str" = some (isT "str" d) := fun d => by cases d <;> (simp only [isT]; decide +kernel)
end
end GM

/-! GMe: targets, walks, comprehensions. -/
namespace GM
open PySem PySem.Spec PyProof.Rows L2
variable [Tb] [Md]

section
variable {K : PySem.W.Frag} {F : Fm} {r : Env} {σ : L2.St} {Hi H Hi' H' : Hp}
/-! ### slots -/
theorem set_get {α : Type} (l : List α) (i j : Nat) (x : α) : (l.set i x)[j]? = if i = j then (if j < l.length then some x else none) else l[j]? := by
  by_cases h : i = j
  · subst h
    rw [if_pos rfl]
    by_cases hl : i < l.length
    · rw [if_pos hl, List.getElem?_set_self hl]
    · rw [if_neg hl]
      exact List.getElem?_eq_none (by simpa using hl)
  · rw [if_neg h, List.getElem?_set_ne h]
theorem Rel.setI {i : Nat} {d : D} {v : V} (R : Rel K F r σ Hi H) (h : Rp K Hi d v) : Rel K F (r.set i (.imm d)) (σ.set i (some v)) Hi H where
  sub := R.sub
  base := R.base
  tabs := R.tabs
  mode := R.mode
  slot := fun j sv e => by
    rw [set_get] at e
    rw [set_get]
    by_cases c : i = j
    · rw [if_pos c] at e
      rw [if_pos c]
      split at e
      · rename_i hl
        cases e
        rw [if_pos (by rw [← R.len]; exact hl)]
        exact ⟨v, rfl, h⟩
      · cases e
    · rw [if_neg c] at e
      rw [if_neg c]
      exact R.slot j sv e
  inj := fun j k dj dk a ne ej ek es => by
    rw [set_get] at ej ek es
    rw [set_get]
    by_cases c : i = j
    · rw [if_pos c] at ej; split at ej <;> cases ej
    · by_cases c2 : i = k
      · rw [if_pos c2] at ek; split at ek <;> cases ek
      · rw [if_neg c] at ej es
        rw [if_neg c2] at ek ⊢
        exact R.inj j k dj dk a ne ej ek es
  len := by rw [List.length_set, List.length_set]; exact R.len
theorem Rel.setNo {i : Nat} (R : Rel K F r σ Hi H) : Rel K F (r.set i .no) σ Hi H where
  sub := R.sub
  base := R.base
  tabs := R.tabs
  mode := R.mode
  slot := fun j sv e => by
    rw [set_get] at e
    by_cases c : i = j
    · rw [if_pos c] at e
      split at e
      · cases e; trivial
      · cases e
    · rw [if_neg c] at e
      exact R.slot j sv e
  inj := fun j k dj dk a ne ej ek es => by
    rw [set_get] at ej ek
    by_cases c : i = j
    · rw [if_pos c] at ej; split at ej <;> cases ej
    · by_cases c2 : i = k
      · rw [if_pos c2] at ek; split at ek <;> cases ek
      · rw [if_neg c] at ej
        rw [if_neg c2] at ek
        exact R.inj j k dj dk a ne ej ek es
  len := by rw [List.length_set]; exact R.len
theorem Rel.setNo2 {i : Nat} {x : Option V} (R : Rel K F r σ Hi H) : Rel K F (r.set i .no) (σ.set i x) Hi H where
  sub := R.sub
  base := R.base
  tabs := R.tabs
  mode := R.mode
  slot := fun j sv e => by
    rw [set_get] at e
    rw [set_get]
    by_cases c : i = j
    · rw [if_pos c] at e
      split at e
      · cases e; trivial
      · cases e
    · rw [if_neg c] at e
      rw [if_neg c]
      exact R.slot j sv e
  inj := fun j k dj dk a ne ej ek es => by
    rw [set_get] at ej ek es
    rw [set_get]
    by_cases c : i = j
    · rw [if_pos c] at ej; split at ej <;> cases ej
    · by_cases c2 : i = k
      · rw [if_pos c2] at ek; split at ek <;> cases ek
      · rw [if_neg c] at ej es
        rw [if_neg c2] at ek ⊢
        exact R.inj j k dj dk a ne ej ek es
  len := by rw [List.length_set, List.length_set]; exact R.len
/-- a new list comes to a slot -/
theorem Rel.setO {i : Nat} {ds : List D} {a : Addr} {xs : List V} (R : Rel K F r σ Hi H) (h : H a = some (.lst xs)) (hi : Hi a = none) (h0 : F.H0 a = none) (q : Rps K Hi ds xs)
    (fr : ∀ (j : Nat) (dj : List D), r[j]? = some (.own dj) → σ[j]? ≠ some (some (.ref a))) : Rel K F (r.set i (.own ds)) (σ.set i (some (.ref a))) Hi H where
  sub := R.sub
  base := R.base
  tabs := R.tabs
  mode := R.mode
  slot := fun j sv e => by
    rw [set_get] at e
    rw [set_get]
    by_cases c : i = j
    · rw [if_pos c] at e
      rw [if_pos c]
      split at e
      · rename_i hl
        cases e
        rw [if_pos (by rw [← R.len]; exact hl)]
        exact ⟨a, xs, rfl, h, hi, h0, q⟩
      · cases e
    · rw [if_neg c] at e
      rw [if_neg c]
      exact R.slot j sv e
  inj := fun j k dj dk b ne ej ek es => by
    rw [set_get] at ej ek es
    rw [set_get]
    by_cases c : i = j
    · rw [if_pos c] at ej es
      have c2 : ¬ i = k := fun z => ne (c.symm.trans z)
      rw [if_neg c2] at ek ⊢
      split at es
      · cases es; exact fr k dk ek
      · cases es
    · rw [if_neg c] at ej es
      by_cases c2 : i = k
      · rw [if_pos c2] at ek ⊢
        split
        · intro z
          cases z
          exact fr j dj ej es
        · intro z; cases z
      · rw [if_neg c2] at ek ⊢
        exact R.inj j k dj dk b ne ej ek es
  len := by rw [List.length_set, List.length_set]; exact R.len
/-- the list at slot i is changed -/
theorem Rel.chg {i : Nat} {ds es : List D} {a : Addr} {ys : List V} (R : Rel K F r σ Hi H) (e : r[i]? = some (.own ds)) (es' : σ[i]? = some (some (.ref a))) (hi : Hi a = none) (h0 : F.H0 a = none) (q : Rps K Hi es ys) :
    Rel K F (r.set i (.own es)) σ Hi (upd H a (.lst ys)) where
  sub := R.sub.updX hi
  base := R.base.updX h0
  tabs := by
    obtain ⟨b, xs, e1, h1, _⟩ := R.slot i _ e
    rw [es'] at e1
    cases e1
    exact tab_lst h1 R.tabs
  mode := R.mode
  slot := fun j sv ej => by
    rw [set_get] at ej
    by_cases c : i = j
    · subst c
      rw [if_pos rfl] at ej
      split at ej
      · cases ej
        exact ⟨a, ys, es', upd_same, hi, h0, q⟩
      · cases ej
    · rw [if_neg c] at ej
      have s := R.slot j sv ej
      cases sv with
      | no => trivial
      | imm d => exact s
      | own dj =>
        obtain ⟨b, xs, e1, h1, h2, h3, h4⟩ := s
        refine ⟨b, xs, e1, ?_, h2, h3, h4⟩
        rw [upd_ne (fun z => by subst z; exact R.inj i j ds dj b c e ej es' e1)]
        exact h1
  inj := fun j k dj dk b ne ej ek eb => by
    have f : ∀ (j : Nat) (dj : List D), (r.set i (.own es))[j]? = some (.own dj) → ∃ d', r[j]? = some (.own d') := fun j dj h => by
      rw [set_get] at h
      by_cases c : i = j
      · subst c; exact ⟨_, e⟩
      · rw [if_neg c] at h; exact ⟨_, h⟩
    obtain ⟨d1, h1⟩ := f j dj ej
    obtain ⟨d2, h2⟩ := f k dk ek
    exact R.inj j k d1 d2 b ne h1 h2 eb
  len := by rw [List.length_set]; exact R.len
/-! ### slots forgotten -/
theorem wipe_get (σ : L2.St) (j : Nat) : ∀ ws : List Nat, (wipe σ ws)[j]? = if j ∈ ws then (if j < σ.length then some none else none) else σ[j]?
  | [] => by simp [wipe]
  | w :: ws => by
    unfold wipe
    rw [set_get, wipe_length, wipe_get σ j ws]
    by_cases c : w = j
    · subst c; simp
    · rw [if_neg c]
      have c' : ¬ j = w := fun z => c z.symm
      simp [c']
theorem wipeE_length (r : Env) : ∀ ws : List Nat, (wipeE r ws).length = r.length
  | [] => rfl
  | w :: ws => by unfold wipeE; rw [List.length_set, wipeE_length r ws]
theorem wipeE_get (r : Env) (j : Nat) : ∀ ws : List Nat, (wipeE r ws)[j]? = if j ∈ ws then (if j < r.length then some .no else none) else r[j]?
  | [] => by simp [wipeE]
  | w :: ws => by
    unfold wipeE
    rw [set_get, wipeE_length, wipeE_get r j ws]
    by_cases c : w = j
    · subst c; simp
    · rw [if_neg c]
      have c' : ¬ j = w := fun z => c z.symm
      simp [c']
theorem wipe_set {σ : L2.St} {i : Nat} {x : Option V} {ws : List Nat} (h : i ∈ ws) : wipe (σ.set i x) ws = wipe σ ws := by
  refine List.ext_getElem? fun j => ?_
  rw [wipe_get, wipe_get, List.length_set, set_get]
  by_cases c : j ∈ ws
  · rw [if_pos c, if_pos c]
  · rw [if_neg c, if_neg c, if_neg (fun z => by subst z; exact c h)]
theorem wipe_wipe {σ : L2.St} {ws : List Nat} : wipe (wipe σ ws) ws = wipe σ ws := by
  refine List.ext_getElem? fun j => ?_
  rw [wipe_get, wipe_length, wipe_get]
  by_cases c : j ∈ ws
  · rw [if_pos c, if_pos c]
  · rw [if_neg c]
theorem Rel.wipe {ws : List Nat} (R : Rel K F r σ Hi H) : Rel K F (wipeE r ws) (L2.wipe σ ws) Hi H where
  sub := R.sub
  base := R.base
  tabs := R.tabs
  mode := R.mode
  slot := fun j sv e => by
    rw [wipeE_get] at e
    rw [wipe_get]
    by_cases c : j ∈ ws
    · rw [if_pos c] at e
      split at e
      · cases e; trivial
      · cases e
    · rw [if_neg c] at e
      rw [if_neg c]
      exact R.slot j sv e
  inj := fun j k dj dk a ne ej ek es => by
    rw [wipeE_get] at ej ek
    rw [wipe_get] at es
    rw [wipe_get]
    by_cases c : j ∈ ws
    · rw [if_pos c] at ej; split at ej <;> cases ej
    · by_cases c2 : k ∈ ws
      · rw [if_pos c2] at ek; split at ek <;> cases ek
      · rw [if_neg c] at ej es
        rw [if_neg c2] at ek ⊢
        exact R.inj j k dj dk a ne ej ek es
  len := by rw [wipeE_length, wipe_length]; exact R.len
end

/-! ### targets -/
def tG (X : Cx) (g : Tg) (vs : List Nat) : TG := fun v σ H Q => ∃ F r Hi d q, Rel X.K F r σ Hi H ∧ Rp X.K Hi d v ∧ g d r = .ok q ∧ ∀ σ', Rel X.K F q σ' Hi H → wipe σ' vs = wipe σ vs → Q σ' H
def GG (X : Cx) (tg : Expr) (g : Tg) (vs : List Nat) : Prop := PG X tg (tG X g vs)
theorem pg_imp {X : Cx} {e : Expr} {t t' : TG} (h : PG X e t) (i : ∀ v σ H Q, t' v σ H Q → t v σ H Q) : PG X e t' := ⟨fun pins s σ H v u Q I r q => h.run pins s σ H v u Q I r (i v σ H Q q)⟩
section
variable {X : Cx} {p q : Bool} {e a b c tg iter elt : Expr} {es : List Expr} {f g h : Ee} {n m src : En} {pos : Pos} {K : PySem.W.Frag} {F : Fm} {r : Env} {σ : L2.St} {Hi H Hi' H' : Hp}
theorem gg_nm {i : Nat} {x : Str} {vs : List Nat} (hN : X.N.Nodup) (hi : X.N[i]? = some x) (hx : Loc X.env.scope x) (hf : X.fn x = true ∨ X.env.scope.names.lookup x = some .local := by first | exact .inl rfl | exact .inr rfl | assumption) (hv : i ∈ vs := by decide) : GG X (.Name x pos) (gNm i) vs :=
  pg_imp (pg_name hN hi hx hf) fun v σ H Q ⟨F, r, Hi, d, q, R, rp, e, k⟩ => by
    cases e
    exact k _ (R.setI rp) (wipe_set hv)
theorem gg_nm' {i : Nat} {x : Str} (hN : X.N.Nodup) (hi : X.N[i]? = some x) (hx : Loc X.env.scope x) (hf : X.fn x = true ∨ X.env.scope.names.lookup x = some .local := by first | exact .inl rfl | exact .inr rfl | assumption) : GG X (.Name x pos) (gNm i) [i] := gg_nm hN hi hx hf (by simp)
theorem gg_tp2 {i j k : Nat} {vs : List Nat} (hc : X.calm = true) (h : PGs X [a, b] (gCons (gName i) (gCons (gName j) gNil))) (hn : (assignEach [a, b] X.env).length = 2 := by rfl) (hst : (assignEach [a, b] X.env).findIdx? (·.1) = none := by rfl) (hi : i ∈ vs := by decide) (hj : j ∈ vs := by decide) :
    GG X (.Tuple [a, b] k pos) (gTp [i, j]) vs :=
  pg_imp (pg_tup hc h hn hst) fun v σ H Q ⟨F, r, Hi, d, q, R, rp, e, k⟩ => by
    unfold gTp at e
    cases d with
    | tup ds =>
      simp only at e
      split at e
      · rename_i hl
        match ds, hl, e, rp with
        | [d1, d2], _, e, .tup hx (.cons r1 (.cons r2 .nil)) =>
          cases e
          exact ⟨_, _, rfl, SqT.of (R.sub.tup hx), rfl, _, _, rfl, _, _, rfl, rfl, k _ ((R.setI r1).setI r2) (by rw [wipe_set hj, wipe_set hi])⟩
      · cases e
    | _ => cases e

/-! ### walks -/
def Walks (K : PySem.W.Frag) (p : Bool) (Hi H : Hp) (J : It) (items : List D) : Prop := ∀ Hi1 H1, Sm Hi Hi1 → Sm Hi1 H1 → (p = false → Sm H H1) →
  J.stop items.length H1 ∧ ∀ i d, items[i]? = some d → J.go i H1 ∧ ∀ v H2, J.yld i H1 v H2 → ∃ Hi2, Ext Hi1 H1 Hi2 H2 ∧ Rp K Hi2 d v
def tI (X : Cx) (W : WX) (p : Bool) (src : En) : TI := fun σ H Rr => ∃ F r Hi, Rel X.K F r σ Hi H ∧ Po X W σ Hi H (src r) fun items Hi' H' => ∀ J, Walks X.K p Hi' H' J items → Rr J H'
def GI (X : Cx) (p : Bool) (tg iter : Expr) (src : En) : Prop := ∀ W : WX, Tk X W → PI X tg iter (tI X W p src)
theorem pi_imp {X : Cx} {tg e : Expr} {t t' : TI} (h : PI X tg e t) (i : ∀ σ H Q, t' σ H Q → t σ H Q) : PI X tg e t' := ⟨fun pins s σ H R I q => h.run pins s σ H R I (i σ H R q)⟩
theorem walks_list {a : Addr} {ds : List D} (h : ∀ Hi1 H1, Sm Hi Hi1 → Sm Hi1 H1 → (p = false → Sm H H1) → ∃ xs, SqL K H1 a xs ∧ Rps K Hi1 ds xs) : Walks K p Hi H (Itl K a) ds := fun Hi1 H1 s1 s2 s3 => by
  obtain ⟨xs, hx, q⟩ := h Hi1 H1 s1 s2 s3
  refine ⟨⟨xs, hx, by rw [q.length]; exact Nat.le_refl _⟩, fun i d e => ?_⟩
  obtain ⟨v, hv, rv⟩ := q.get e
  refine ⟨⟨xs, v, hx, hv⟩, fun v' H2 y => ?_⟩
  obtain ⟨rfl, y⟩ := y
  have := y xs hx
  rw [hv] at this
  cases this
  exact ⟨Hi1, Ext.refl s2, rv⟩
theorem walks_tup {a : Addr} {ds : List D} (h : ∀ Hi1 H1, Sm Hi Hi1 → Sm Hi1 H1 → (p = false → Sm H H1) → ∃ xs, SqT K H1 a xs ∧ Rps K Hi1 ds xs) : Walks K p Hi H (Itt K a) ds := fun Hi1 H1 s1 s2 s3 => by
  obtain ⟨xs, hx, q⟩ := h Hi1 H1 s1 s2 s3
  refine ⟨⟨xs, hx, by rw [q.length]; exact Nat.le_refl _⟩, fun i d e => ?_⟩
  obtain ⟨v, hv, rv⟩ := q.get e
  refine ⟨⟨xs, v, hx, hv⟩, fun v' H2 y => ?_⟩
  obtain ⟨rfl, y⟩ := y
  have := y xs hx
  rw [hv] at this
  cases this
  exact ⟨Hi1, Ext.refl s2, rv⟩
theorem walks_rng {lo : Int} {k : Nat} : Walks K p Hi H (Itr lo k) (rng lo k) := fun Hi1 H1 s1 s2 s3 => by
  have hl : (rng lo k).length = k := by unfold rng; rw [List.length_map, List.length_range]
  refine ⟨by rw [hl]; exact Nat.le_refl _, fun i d e => ?_⟩
  have hi : i < k := by rw [← hl]; exact (List.getElem?_eq_some_iff.mp e).1
  have ed : d = .int (lo + i) := by
    unfold rng at e
    rw [List.getElem?_map, List.getElem?_range hi] at e
    cases e; rfl
  subst ed
  refine ⟨hi, fun v H2 y => ?_⟩
  obtain ⟨rfl, rfl⟩ := y
  exact ⟨Hi1, Ext.refl s2, .int _⟩
theorem gi_list (ha : GE X p a f) : GI X p tg a (iL f) := fun W tk => pi_imp (pi_list (ha W tk)) fun σ H Rr ⟨F, ρ, Hi, R, h⟩ => by
  refine ⟨F, ρ, Hi, R, (Po.bind h).imp fun x Hi1 H1 _ e1 k v rv => ?_⟩
  have k := k e1
  cases x with
  | lst ds =>
    have k := k Hi1 H1 (Ext.refl e1.sub)
    rcases rv with rv | ⟨ep, a, xs, ds', rfl, e2, ha, q⟩
    · cases rv with
      | lst ha q =>
        exact ⟨_, rfl, ⟨_, SqL.of (e1.sub.lst ha)⟩, k _ (walks_list fun Hi2 H2 s1 s2 _ => ⟨_, SqL.of (s2.lst (s1.lst ha)), q.same s1⟩)⟩
    · cases e2
      exact ⟨_, rfl, ⟨_, SqL.of ha⟩, k _ (walks_list fun Hi2 H2 s1 s2 s3 => ⟨_, SqL.of ((s3 ep).lst ha), q.same s1⟩)⟩
  | scr ns =>
    have k := k Hi1 H1 (Ext.refl e1.sub)
    obtain ⟨a, rfl, hx, hs⟩ := rv.scr e1.sub
    refine ⟨a, rfl, ⟨_, hx⟩, k _ (walks_list fun Hi2 H2 s1 s2 _ => ⟨_, ?_, Rps.ofInts ns⟩)⟩
    have : Scr X.K H2 a ns := hs.elim (fun ⟨o, hs⟩ => .inl ⟨o, s2.frz (s1.frz hs)⟩) .inr
    exact this.sq
  | _ => exact k.elim
theorem gi_tup (ha : GE X p a f) : GI X p tg a (iT f) := fun W tk => pi_imp (pi_tup (ha W tk)) fun σ H Rr ⟨F, ρ, Hi, R, h⟩ => by
  refine ⟨F, ρ, Hi, R, (Po.bind h).imp fun x Hi1 H1 _ e1 k v rv => ?_⟩
  have k := k e1
  unfold tupOf at k
  split at k
  · rename_i ds
    have k := k Hi1 H1 (Ext.refl e1.sub)
    obtain ⟨a, xs, rfl, hi, hx, q⟩ := rv.tup e1.sub
    exact ⟨_, rfl, ⟨_, SqT.of hx⟩, k _ (walks_tup fun Hi2 H2 s1 s2 _ => ⟨_, SqT.of (s2.tup (s1.tup hi)), q.same s1⟩)⟩
  · exact k.elim
theorem gi_new (ha : GN X a n) : GI X p tg a n := fun W tk => pi_imp (gi_list (p := p) (tg := tg) ha.ge W tk) fun σ H Rr ⟨F, ρ, Hi, R, h⟩ => by
  refine ⟨F, ρ, Hi, R, ?_⟩
  unfold iL toE
  revert h
  cases n ρ with
  | ok ds => exact id
  | ex c => exact id
  | bad => exact id
theorem gi_r1 {px : Pos} (hg : Gl X "range") (hm : X.mg "range" = none) (ha : GE X true a f) (he : starEach [a] X.env = (false, eval a X.env) :: starEach [] X.env := by rfl) (hs : starEach [a] X.env = [(false, eval a X.env)] := by rfl) : GI X p tg (.Call (.Name "range" px) [a] [] pos) (iR1 f) := fun W tk =>
  pi_imp (pi_range1 hg hm (pa_cons (ha W tk) pa_nil he) hs) fun σ H Rr ⟨F, ρ, Hi, R, h⟩ => by
    refine ⟨F, ρ, Hi, R, (Po.bind h).imp fun x Hi1 H1 _ e1 k v rv => ?_⟩
    have k := k e1
    cases x with
    | int j =>
      simp only at k
      split at k
      · rename_i hb
        rw [rv.int]
        exact ⟨j, rfl, hb.1, hb.2, k Hi1 H1 (Ext.refl e1.sub) _ walks_rng⟩
      · exact k.elim
    | _ => exact k.elim
theorem gi_r2 {px : Pos} (hg : Gl X "range") (hm : X.mg "range" = none) (ha : GE X true a f) (hb : GE X true b g) (he : starEach [a, b] X.env = (false, eval a X.env) :: starEach [b] X.env := by rfl) (he2 : starEach [b] X.env = (false, eval b X.env) :: starEach [] X.env := by rfl)
    (hs : starEach [a, b] X.env = [(false, eval a X.env), (false, eval b X.env)] := by rfl) (hs2 : starEach [b] X.env = [(false, eval b X.env)] := by rfl) : GI X p tg (.Call (.Name "range" px) [a, b] [] pos) (iR2 f g) := fun W tk =>
  pi_imp (pi_range2 hg hm (pa_cons (ha W tk) (pa_cons (hb W tk) pa_nil he2) he) hs hs2) fun σ H Rr ⟨F, ρ, Hi, R, h⟩ => by
    refine ⟨F, ρ, Hi, R, (Po.bind h).imp fun x Hi1 H1 _ e1 k v rv => ?_⟩
    refine ⟨F, ρ, Hi1, R.ext e1, (Po.bind (k e1)).imp fun y Hi2 H2 _ e2 k u ru => ?_⟩
    have k := k e2
    cases x with
    | int i =>
      cases y with
      | int j =>
        simp only at k
        split at k
        · rename_i hb
          rw [rv.int, ru.int]
          exact ⟨i, j, rfl, hb, k Hi2 H2 (Ext.refl e2.sub) _ walks_rng⟩
        · exact k.elim
      | _ => exact k.elim
    | _ => exact k.elim

/-! ### comprehensions -/
def W0 : WX := fun _ _ _ _ => False
def GTs (X : Cx) (ifs : List Expr) (t : Et) : Prop := PTs X ifs (tT X W0 t)
theorem pts_imp {X : Cx} {e : List Expr} {t t' : TT} (h : PTs X e t) (i : ∀ σ H Q, t' σ H Q → t σ H Q) : PTs X e t' := ⟨fun pins s σ H Q I q => h.run pins s σ H Q I (i σ H Q q)⟩
theorem gts_nil : GTs X [] tYes := pts_imp pts_nil fun σ H Q ⟨F, r, Hi, R, h⟩ => h Hi H R.rfl'
theorem gts_one {t : Et} (h : GT X c t) : GTs X [c] t := pts_one (h W0 tk0)
theorem calm_ok {α : Type} {x : Rs α} {a : α} (h : x.calm = .ok a) : x = .ok a := by cases x <;> first | cases h; rfl | cases h
theorem bind_ok_of {α β : Type} {x : Rs α} {k : α → Rs β} {b : β} (h : x.bind k = .ok b) : ∃ a, x = .ok a ∧ k a = .ok b := by cases x <;> first | exact ⟨_, rfl, h⟩ | cases h
theorem calm_noex {α β : Type} {x : Rs α} {k : α → Rs β} {c : String} (h : x.calm.bind k = .ex c) : ∃ a, k a = .ex c := by cases x <;> first | exact ⟨_, h⟩ | cases h
theorem lcGo_noex {gt : Tg} {t : Et} {e : Ee} {r : Env} {c : String} : ∀ items, lcGo gt t e r items ≠ .ex c
  | [] => fun h => by cases h
  | x :: xs => fun h => by
    unfold lcGo at h
    obtain ⟨r1, h⟩ := calm_noex h
    obtain ⟨b, h⟩ := calm_noex h
    cases b with
    | false => exact lcGo_noex xs h
    | true =>
      obtain ⟨y, h⟩ := calm_noex h
      cases hr : lcGo gt t e r xs with
      | ok ys => rw [hr] at h; cases h
      | ex c' => exact lcGo_noex xs hr
      | bad => rw [hr] at h; cases h
theorem lcGo_len {gt : Tg} {t : Et} {e : Ee} {r : Env} : ∀ {items : List D} {zs : List D}, lcGo gt t e r items = .ok zs → zs.length ≤ items.length
  | [], zs, h => by cases h; exact Nat.le_refl _
  | x :: xs, zs, h => by
    unfold lcGo at h
    obtain ⟨r1, _, h⟩ := bind_ok_of h
    obtain ⟨b, _, h⟩ := bind_ok_of h
    cases b with
    | false => exact Nat.le_succ_of_le (lcGo_len h)
    | true =>
      obtain ⟨y, _, h⟩ := bind_ok_of h
      obtain ⟨ys, h1, h2⟩ := bind_ok_of h
      cases h2
      exact Nat.succ_le_succ (lcGo_len h1)
theorem Ext.mut {p : Addr} {xs ys : List V} (x : Ext Hi H Hi' H') (h : H p = none) (hi : Hi' p = none) (hp : H' p = some (.lst xs)) : Ext Hi H Hi' (upd H' p (.lst ys)) where
  hi := x.hi
  h := x.h.updX h
  sub := x.sub.updX hi
  out := x.out
  tab := fun t => tab_lst hp (x.tab t)
theorem drop_cons' {α : Type} {l : List α} {i : Nat} (h : i < l.length) : l.drop i = l[i] :: l.drop (i + 1) := List.drop_eq_getElem_cons h
theorem lc_read {W : WX} {gt : Tg} {t : Et} {ee : Ee} {ws : List Nat} {Q : VK} (h : tN X W (nComp src gt ws t ee) σ H Q) : tLc (tI X W p src) (tG X gt ws) (tT X W0 t) (tE X W0 true ee) ws σ H Q := by
  obtain ⟨F, r, Hi, R, h⟩ := h
  refine ⟨F, r, Hi, R, (Po.bind h).imp fun items Hi1 H1 _ e1 k J wk => ?_⟩
  have k := k e1
  split at k
  · rename_i hlim
    cases hz : lcGo gt t ee (wipeE r ws) items with
    | ex c => exact absurd hz (lcGo_noex items)
    | bad => rw [hz] at k; exact k.elim
    | ok zs =>
      rw [hz] at k
      intro D hD
      have hHD : H D = none := Sm.free e1.h hD
      refine ⟨fun i m H' => m = items.length - i ∧ i ≤ items.length ∧ ∃ acc ds Hi', H' D = some (.lst acc) ∧ Rps X.K Hi' ds acc ∧ Hi' D = none ∧ Ext Hi1 H1 Hi' H' ∧ ds.length ≤ i ∧ ∃ rest, lcGo gt t ee (wipeE r ws) (items.drop i) = .ok rest ∧ ds ++ rest = zs,
        ⟨items.length, by simp, Nat.zero_le _, [], [], Hi1, upd_same, .nil, none_hi e1.sub hD, Ext.lst e1.sub hD, Nat.le_refl _, zs, by simpa using hz, rfl⟩, ?_⟩
      rintro i m H' ⟨rfl, hi, acc, ds, Hi', hacc, qa, hDi, ex, hds, rest, hr, hzs⟩
      obtain ⟨stp, stepi⟩ := wk Hi' H' ex.hi ex.sub fun _ => ex.h
      by_cases hlt : i < items.length
      · refine .inr ?_
        obtain ⟨go, yl⟩ := stepi i items[i] (by simp [hlt])
        rw [drop_cons' hlt] at hr
        unfold lcGo at hr
        obtain ⟨r1, hg1, hr⟩ := bind_ok_of hr
        obtain ⟨b, ht1, hr⟩ := bind_ok_of hr
        have hg1 := calm_ok hg1
        have ht1 := calm_ok ht1
        refine ⟨go, fun H'' => ∃ acc ds Hi', H'' D = some (.lst acc) ∧ Rps X.K Hi' ds acc ∧ Hi' D = none ∧ Ext Hi1 H1 Hi' H'' ∧ ds.length ≤ i + 1 ∧ ∃ rest, lcGo gt t ee (wipeE r ws) (items.drop (i + 1)) = .ok rest ∧ ds ++ rest = zs,
          fun H'' nx => ⟨items.length - (i + 1), by omega, rfl, hlt, nx⟩, fun v H2 y => ?_⟩
        obtain ⟨Hi2, ex2, rv⟩ := yl v H2 y
        have ex12 := ex.trans ex2
        have RR : Rel X.K F (wipeE r ws) (wipe σ ws) Hi2 H2 := R.wipe.ext (e1.trans ex12)
        have hD2 : H2 D = some (.lst acc) := ex2.h.lst hacc
        have hDi2 : Hi2 D = none := ex2.out D acc hacc hDi
        refine ⟨F, wipeE r ws, Hi2, items[i], r1, RR, rv, hg1, fun σ2 R2 hw => ⟨by rw [hw, wipe_wipe], F, r1, Hi2, R2, ?_⟩⟩
        rw [ht1]
        intro Hi3 H3 ex3
        have hD3 : H3 D = some (.lst acc) := ex3.h.lst hD2
        have hDi3 : Hi3 D = none := ex3.out D acc hD2 hDi2
        cases b with
        | false =>
          exact iteF ⟨acc, ds, Hi3, hD3, (qa.same ex2.hi).same ex3.hi, hDi3, ex12.trans ex3, Nat.le_succ_of_le hds, rest, hr, hzs⟩
        | true =>
          refine iteT ⟨F, r1, Hi3, R2.ext ex3, ?_⟩
          obtain ⟨y, hy, hr⟩ := bind_ok_of hr
          have hy := calm_ok hy
          obtain ⟨ys, hys, e5⟩ := bind_ok_of hr
          cases e5
          rw [hy]
          intro Hi4 H4 ex4 v4 rv4
          have hD4 : H4 D = some (.lst acc) := ex4.h.lst hD3
          have hDi4 : Hi4 D = none := ex4.out D acc hD3 hDi3
          refine ⟨acc, hD4, ?_, acc ++ [v4], ds ++ [y], Hi4, upd_same, (((qa.same ex2.hi).same ex3.hi).same ex4.hi).append (.cons rv4.rp .nil), hDi4, ((ex12.trans ex3).trans ex4).mut hD hDi4 hD4, ?_, ys, hys, ?_⟩
          · rw [← qa.length]
            exact lt_line (Nat.lt_of_lt_of_le (Nat.lt_of_le_of_lt hds hlt) hlim)
          · rw [List.length_append]; exact Nat.succ_le_succ hds
          · rw [List.append_assoc]; exact hzs
      · have ei : i = items.length := by omega
        subst ei
        rw [List.drop_length] at hr
        cases hr
        rw [List.append_nil] at hzs
        subst hzs
        exact .inl ⟨stp, k Hi' H' ex D acc hHD hacc hDi qa⟩
  · exact k.elim
section
variable {ifs : List Expr} {scope : Scope} {own : List (Str × Nat)} {gt : Tg} {t : Et} {ee : Ee}
theorem gn_comp (hc : X.calm = true) (hN : X.N.Nodup) (hi : GI X p tg iter src) (ok : BlkOk X.N X.env.scope scope own)
    (hg : ∀ (s : Shared) (H : Hp) (C : Addr) (cl : List (Str × Addr)) (fp : List Addr), GG (X.blk s H scope (compEnvC scope cl C X.env) fp) tg gt (own.map (·.2))) (ht : ∀ (s : Shared) (H : Hp) (C : Addr) (cl : List (Str × Addr)) (fp : List Addr), GTs (X.blk s H scope (compEnvC scope cl C X.env) fp) ifs t)
    (he : ∀ (s : Shared) (H : Hp) (C : Addr) (cl : List (Str × Addr)) (fp : List Addr), GE (X.blk s H scope (compEnvC scope cl C X.env) fp) true elt ee) (hs : ∀ x, foldedSetIterable iter X.env x = pure x := by intro _; rfl) :
    GN X (.ListComp elt [⟨tg, iter, ifs, 0⟩] scope pos) (nComp src gt (own.map (·.2)) t ee) := fun W tk =>
  pe_imp (pe_lc (wi := tI X W p src) (g := tG X gt (own.map (fun (x : Str × Nat) => x.2))) (tt := tT X W0 t) (te := tE X W0 true ee) hc hN (hi W tk) ok hg ht (fun s H C cl fp => he s H C cl fp W0 tk0) hs) fun σ H Q h => lc_read h
end
end
end GM

/-! GMf: statements, defs. -/
namespace GM
open PySem PySem.Spec PyProof.Rows L2
variable [Tb] [Md]

/-- what is wanted behind a statement -/
def Pt (X : Cx) (W : WX) (F : Fm) (Hi : Hp) (D : Ends) : So → Prop
  | .nx q => ∀ σ' Hi' H', Rel X.K F q σ' Hi' H' → Sm Hi Hi' → D.nx σ' H'
  | .bk q => ∀ σ' Hi' H', Rel X.K F q σ' Hi' H' → Sm Hi Hi' → D.bk σ' H'
  | .rt d => (F.m && !noL d) = false ∧ ∀ v H', Gr F.H0 H' → Rp X.K (vw F.H0 H') d v → D.rt v H'
  | .rn ds => (F.m && !noLs ds) = false ∧ ∀ a xs H', Gr F.H0 H' → F.H0 a = none → H' a = some (.lst xs) → Rps X.K (rm a (vw F.H0 H')) ds xs → D.rt (.ref a) H'
  | .ex c q => ∀ σ' Hi' H' u, Rel X.K F q σ' Hi' H' → Sm Hi Hi' → clsOf X c u → W u none σ' H'
  | .bad => False
def tS (X : Cx) (W : WX) (g : Es) : TS := fun D σ H => ∃ F r Hi, Rel X.K F r σ Hi H ∧ Pt X W F Hi D (g r)
def GS (X : Cx) (st : Stmt) (g : Es) : Prop := ∀ W : WX, Tk X W → PS X st (tS X W g)
def GSs (X : Cx) (st : List Stmt) (g : Es) : Prop := ∀ W : WX, Tk X W → PSs X st (tS X W g)

section
variable {X : Cx} {p q : Bool} {e a b c tg iter elt : Expr} {es : List Expr} {f g h : Ee} {n m src : En} {pos : Pos} {K : PySem.W.Frag} {F : Fm} {r : Env} {σ : L2.St} {Hi H Hi' H' : Hp} {st : Stmt} {sts : List Stmt} {ga gb : Es} {W : WX} {Z : Ends}
theorem Pt.same {o : So} (h : Pt X W F Hi Z o) (s : Sm Hi Hi') : Pt X W F Hi' Z o := by
  cases o with
  | nx q => exact fun σ' H1 H2 R t => h σ' H1 H2 R (s.trans t)
  | bk q => exact fun σ' H1 H2 R t => h σ' H1 H2 R (s.trans t)
  | rt d => exact h
  | rn ds => exact h
  | ex c q => exact fun σ' H1 H2 u R t => h σ' H1 H2 u R (s.trans t)
  | bad => exact h
/-- from an expression's answer to what is behind it -/
theorem Pt.lift {α : Type} {x : Rs α} {k : α → So} (R : Rel X.K F r σ Hi H) (h : Pt X W F Hi Z (liftS r x k)) : Po X W σ Hi H x fun a Hi' H' => Ext Hi H Hi' H' → Rel X.K F r σ Hi' H' → Pt X W F Hi' Z (k a) := by
  cases x with
  | ok a => exact fun Hi' H' e _ _ => Pt.same h e.hi
  | ex c => exact fun Hi' H' u e hu => h σ Hi' H' u (R.ext e) e.hi hu
  | bad => exact h
theorem gss_nil : GSs X [] sNx := fun W tk => pss_imp pss_nil fun D σ H ⟨F, r, Hi, R, h⟩ => h σ Hi H R (Sm.refl _)
theorem gss_cons (h1 : GS X st ga) (h2 : GSs X sts gb) : GSs X (st :: sts) (sSeq ga gb) := fun W tk => pss_imp (pss_cons (h1 W tk) (h2 W tk)) fun D σ H ⟨F, r, Hi, R, h⟩ => by
  refine ⟨F, r, Hi, R, ?_⟩
  unfold sSeq at h
  revert h
  cases ga r with
  | nx q => exact fun h σ' Hi' H' R' s => ⟨F, q, Hi', R', h.same s⟩
  | bk q => exact id
  | rt d => exact id
  | rn ds => exact id
  | ex c q => exact id
  | bad => exact id
theorem gss_one (h1 : GS X st ga) : GSs X [st] ga := fun W tk => pss_imp (pss_one (h1 W tk)) fun D σ H h => h
theorem gs_doc {x : Str} {j : Nat} {pos' : Pos} : GS X (.Expr (.Constant (.str x) j pos) pos') sNx := fun W tk => ps_imp ps_doc fun D σ H ⟨F, r, Hi, R, h⟩ => h σ Hi H R (Sm.refl _)
theorem gs_brk : GS X (.Break pos) sBrk := fun W tk => ps_imp ps_break fun D σ H ⟨F, r, Hi, R, h⟩ => h σ Hi H R (Sm.refl _)
theorem gs_drop (he : GE X false e f) (hs : swapsWith e none pos.line X.env = pure false := by rfl) : GS X (.Expr e pos) (sDrop f) := fun W tk => ps_imp (ps_expr (he W tk) hs) fun D σ H ⟨F, r, Hi, R, h⟩ =>
  ⟨F, r, Hi, R, (Pt.lift R h).imp fun d Hi1 H1 _ e1 k v rv => k e1 (R.ext e1) σ Hi1 H1 (R.ext e1) (Sm.refl _)⟩
theorem gs_set (i : Nat) {x : Str} {pos' : Pos} (hN : X.N.Nodup) (hi : X.N[i]? = some x) (hx : Loc X.env.scope x) (he : GE X true e f) (hs : swapsWith e (some (.Name x pos')) pos.line X.env = pure false := by rfl) (hf : X.fn x = true ∨ X.env.scope.names.lookup x = some .local := by first | exact .inl rfl | exact .inr rfl | assumption) :
    GS X (.Assign [.Name x pos'] e pos) (sSet i f) := fun W tk => ps_imp (ps_set (i := i) hN hi hx (he W tk) hs hf) fun D σ H ⟨F, r, Hi, R, h⟩ =>
  ⟨F, r, Hi, R, (Pt.lift R h).imp fun d Hi1 H1 _ e1 k v rv => k e1 (R.ext e1) _ Hi1 H1 ((R.ext e1).setI rv.rp) (Sm.refl _)⟩
theorem Rel.fresh {a : Addr} (R : Rel K F r σ Hi H) (h : H a = none) : ∀ (j : Nat) (dj : List D), r[j]? = some (.own dj) → σ[j]? ≠ some (some (.ref a)) := fun j dj e z => by
  obtain ⟨b, xs, e1, h1, _⟩ := R.slot j _ e
  rw [z] at e1
  cases e1
  rw [h] at h1
  cases h1
theorem tN_set {i : Nat} (h : tS X W (sSetN i n) Z σ H) : tN X W n σ H (fun x H1 => gName i x σ H1 Z.nx) := by
  obtain ⟨F, r, Hi, R, h⟩ := h
  refine ⟨F, r, Hi, R, (Pt.lift R h).imp fun ds Hi1 H1 _ e1 k a xs hn ha hi q => ?_⟩
  exact k e1 (R.ext e1) _ Hi1 H1 ((R.ext e1).setO ha hi (Sm.free R.base hn) q (R.fresh hn)) (Sm.refl _)
theorem gs_setN (i : Nat) {x : Str} {pos' : Pos} (hN : X.N.Nodup) (hi : X.N[i]? = some x) (hx : Loc X.env.scope x) (he : GN X e n) (hs : swapsWith e (some (.Name x pos')) pos.line X.env = pure false := by rfl) (hf : X.fn x = true ∨ X.env.scope.names.lookup x = some .local := by first | exact .inl rfl | exact .inr rfl | assumption) :
    GS X (.Assign [.Name x pos'] e pos) (sSetN i n) := fun W tk => ps_imp (ps_set (i := i) hN hi hx (he W tk) hs hf) fun D σ H h => tN_set h
section
variable {ifs : List Expr} {scope : Scope} {own : List (Str × Nat)} {gt : Tg} {t : Et} {ee : Ee}
/-- y = [..], the list one's own; seen -/
theorem gs_setLc (i : Nat) {y : Str} {py spos : Pos} (hc : X.calm = true) (hN : X.N.Nodup) (hy : X.N[i]? = some y) (hyl : X.env.scope.names.lookup y = some .local) (hsw : swapsWith (.ListComp elt [⟨tg, iter, ifs, 0⟩] scope pos) (some (.Name y py)) spos.line X.env = pure true)
    (hi : GI X p tg iter src) (ok : BlkOk X.N X.env.scope scope own)
    (hg : ∀ (s : Shared) (H : Hp) (C : Addr) (cl : List (Str × Addr)) (fp : List Addr), GG (X.blk s H scope (compEnvC scope cl C X.env) fp) tg gt (own.map (·.2))) (ht : ∀ (s : Shared) (H : Hp) (C : Addr) (cl : List (Str × Addr)) (fp : List Addr), GTs (X.blk s H scope (compEnvC scope cl C X.env) fp) ifs t)
    (he : ∀ (s : Shared) (H : Hp) (C : Addr) (cl : List (Str × Addr)) (fp : List Addr), GE (X.blk s H scope (compEnvC scope cl C X.env) fp) true elt ee) (hs : ∀ x, foldedSetIterable iter X.env x = pure x := by intro _; rfl) :
    GS X (.Assign [.Name y py] (.ListComp elt [⟨tg, iter, ifs, 0⟩] scope pos) spos) (sSetN i (nComp src gt (own.map (·.2)) t ee)) := fun W tk =>
  ps_imp (ps_setLc (i := i) (wi := tI X W p src) (g := tG X gt (own.map (fun (x : Str × Nat) => x.2))) (tt := tT X W0 t) (te := tE X W0 true ee) hc hN hy hyl hsw (hi W tk) ok hg ht (fun s H C cl fp => he s H C cl fp W0 tk0) hs) fun D σ H h => lc_read (tN_set h)
theorem gs_setLcI (i : Nat) {y : Str} {py spos : Pos} (hc : X.calm = true) (hN : X.N.Nodup) (hy : X.N[i]? = some y) (hyl : X.env.scope.names.lookup y = some .local) (hsw : swapsWith (.ListComp elt [⟨tg, iter, ifs, 0⟩] scope pos) (some (.Name y py)) spos.line X.env = pure true)
    (hi : GI X p tg iter src) (ok : BlkOk X.N X.env.scope scope own)
    (hg : ∀ (s : Shared) (H : Hp) (C : Addr) (cl : List (Str × Addr)) (fp : List Addr), GG (X.blk s H scope (compEnvC scope cl C X.env) fp) tg gt (own.map (·.2))) (ht : ∀ (s : Shared) (H : Hp) (C : Addr) (cl : List (Str × Addr)) (fp : List Addr), GTs (X.blk s H scope (compEnvC scope cl C X.env) fp) ifs t)
    (he : ∀ (s : Shared) (H : Hp) (C : Addr) (cl : List (Str × Addr)) (fp : List Addr), GE (X.blk s H scope (compEnvC scope cl C X.env) fp) true elt ee) (hs : ∀ x, foldedSetIterable iter X.env x = pure x := by intro _; rfl) :
    GS X (.Assign [.Name y py] (.ListComp elt [⟨tg, iter, ifs, 0⟩] scope pos) spos) (sSet i (toE (nComp src gt (own.map (·.2)) t ee))) := fun W tk =>
  ps_imp (ps_setLc (i := i) (wi := tI X W p src) (g := tG X gt (own.map (fun (x : Str × Nat) => x.2))) (tt := tT X W0 t) (te := tE X W0 true ee) hc hN hy hyl hsw (hi W tk) ok hg ht (fun s H C cl fp => he s H C cl fp W0 tk0) hs) fun D σ H ⟨F, r, Hi, R, h⟩ => by
    refine lc_read ⟨F, r, Hi, R, ?_⟩
    have h := Po.map (Pt.lift R h)
    refine h.imp fun ds Hi1 H1 _ e1 k a xs hn ha hi q => ?_
    have e2 := e1.see hn ha hi
    exact k e1 (R.ext e1) _ _ H1 ((R.ext e2).setI (.lst upd_same (q.same (Sm.new hi)))) (Sm.new hi)
end
theorem gs_if {ha : Et} {sa sb : List Stmt} (hc : GT X c ha) (h1 : GSs X sa ga) (h2 : GSs X sb gb) : GS X (.If c sa sb pos) (sIf ha ga gb) := fun W tk => ps_imp (ps_if (hc W tk) (h1 W tk) (h2 W tk)) fun D σ H ⟨F, r, Hi, R, h⟩ => by
  refine ⟨F, r, Hi, R, (Pt.lift R h).imp fun b Hi1 H1 _ e1 k => ?_⟩
  have k := k e1 (R.ext e1)
  cases b with
  | true => exact iteT ⟨F, r, Hi1, R.ext e1, k⟩
  | false => exact iteF ⟨F, r, Hi1, R.ext e1, k⟩
/-! ### returns -/
mutual
theorem noL_to : ∀ {d : D} {v : V} {A B : Hp}, noL d = true → Rp K A d v → (∀ b o, A b = some o → (∀ ys, o ≠ .lst ys) → NT o → B b = some o) → Rp K B d v
  | _, _, _, _, _, .non, _ => .non
  | _, _, _, _, _, .bl b, _ => .bl b
  | _, _, _, _, _, .int i, _ => .int i
  | _, _, _, _, _, .str x, _ => .str x
  | _, _, _, _, h, .tup e r, u => .tup (u _ _ e (fun ys z => by cases z) fun ys z => by cases z) (noLs_to (by simpa [noL] using h) r u)
  | _, _, _, _, h, .lst e r, _ => by simp [noL] at h
  | _, _, _, _, _, .scr e, u => .scr (e.elim (fun ⟨o, e⟩ => .inl ⟨o, u _ _ e (fun ys z => by cases z) fun ys z => by cases z⟩) .inr)
  | _, _, _, _, h, .fn e C r hc, u => .fn (u _ _ e (fun ys z => by cases z) fun ys z => by cases z) (C.to fun _ _ e => u _ _ e (fun ys z => by cases z) fun ys z => by cases z) (noLs_to (by simpa [noL] using h) r u)
      (u _ _ hc (fun ys z => by unfold LamX.CodeO at z; cases z) fun ys z => by unfold LamX.CodeO at z; cases z)
theorem noLs_to : ∀ {ds : List D} {vs : List V} {A B : Hp}, noLs ds = true → Rps K A ds vs → (∀ b o, A b = some o → (∀ ys, o ≠ .lst ys) → NT o → B b = some o) → Rps K B ds vs
  | _, _, _, _, _, .nil, _ => .nil
  | _, _, _, _, h, .cons r t, u =>
    have h' := Bool.and_eq_true_iff.mp (by simpa [noLs] using h)
    .cons (noL_to h'.1 r u) (noLs_to h'.2 t u)
end
theorem vw_nl (R : Rel K F r σ Hi H) : ∀ b o, Hi b = some o → (∀ ys, o ≠ .lst ys) → NT o → vw F.H0 H b = some o := fun b o e t n => vw_of (R.sub.to _ _ e n) fun xs z => by
  have := R.base.lst z
  rw [R.sub.to _ _ e n] at this
  cases this
  exact t xs rfl
theorem vw_none {H0 H : Hp} {a : Addr} (h : vw H0 H a = none) : (∃ xs, H0 a = some (.lst xs)) ∨ H a = none := by
  unfold GM.vw at h
  split at h
  · rename_i xs e; exact .inl ⟨xs, e⟩
  · exact .inr h
theorem Rel.vw (R : Rel K F r σ Hi H) (m : F.m = false) : Sm Hi (vw F.H0 H) := ⟨fun a o e n => vw_of (R.sub.to a o e n) fun xs z => (by
  rw [R.mode m a xs z] at e
  cases e), fun a h => by
  rcases vw_none h with ⟨xs, z⟩ | z
  · exact R.mode m a xs z
  · exact R.sub.fr a z⟩
theorem Rel.gr (R : Rel K F r σ Hi H) : Gr F.H0 H := ⟨R.base, fun _ => R.tabs⟩
theorem Rel.back {d : D} {v : V} (R : Rel K F r σ Hi H) (h : (F.m && !noL d) = false) (rp : Rp K Hi d v) : Rp K (GM.vw F.H0 H) d v := by
  cases hm : F.m with
  | false => exact rp.same (R.vw hm)
  | true =>
    rw [hm] at h
    exact noL_to (by simpa using h) rp (vw_nl R)
mutual
theorem Rp.rm {a : Addr} : ∀ {d : D} {v : V}, Rp K Hi d v → Hi a = none → Rp K (rm a Hi) d v
  | _, _, .non, _ => .non
  | _, _, .bl b, _ => .bl b
  | _, _, .int i, _ => .int i
  | _, _, .str x, _ => .str x
  | _, _, .tup h r, e => .tup (by unfold GM.rm; rw [if_neg (fun z => by subst z; rw [e] at h; cases h)]; exact h) (Rps.rm r e)
  | _, _, .lst h r, e => .lst (by unfold GM.rm; rw [if_neg (fun z => by subst z; rw [e] at h; cases h)]; exact h) (Rps.rm r e)
  | _, _, .scr h, e => .scr (h.elim (fun ⟨o, h⟩ => .inl ⟨o, by unfold GM.rm; rw [if_neg (fun z => by subst z; rw [e] at h; cases h)]; exact h⟩) .inr)
  | _, _, .fn h C r hc, e => 
    have no : ∀ {b : Addr} {o : HO}, Hi b = some o → GM.rm a Hi b = some o := fun {b o} h => by unfold GM.rm; rw [if_neg (fun z => by subst z; rw [e] at h; cases h)]; exact h
    .fn (no h) (C.to fun _ _ => no) (Rps.rm r e) (no hc)
theorem Rps.rm {a : Addr} : ∀ {ds : List D} {vs : List V}, Rps K Hi ds vs → Hi a = none → Rps K (rm a Hi) ds vs
  | _, _, .nil, _ => .nil
  | _, _, .cons r t, e => .cons (Rp.rm r e) (Rps.rm t e)
end
theorem Rel.backN {ds : List D} {xs : List V} {a : Addr} (R : Rel K F r σ Hi H) (h : (F.m && !noLs ds) = false) (hi : Hi a = none) (rp : Rps K Hi ds xs) : Rps K (GM.rm a (GM.vw F.H0 H)) ds xs := by
  have no : ∀ b o, Hi b = some o → b ≠ a := fun b o e z => by subst z; rw [hi] at e; cases e
  cases hm : F.m with
  | false =>
    refine rp.same ⟨fun b o e n => ?_, fun b e => ?_⟩
    · unfold GM.rm
      rw [if_neg (no b o e)]
      exact (R.vw hm).to b o e n
    · unfold GM.rm at e
      by_cases c : b = a
      · rw [c]; exact hi
      · rw [if_neg c] at e; exact (R.vw hm).fr b e
  | true =>
    rw [hm] at h
    refine noLs_to (by simpa using h) rp fun b o e t n => ?_
    unfold GM.rm
    rw [if_neg (no b o e)]
    exact vw_nl R b o e t n
theorem gs_ret (he : GE X true e f) : GS X (.Return (some e) pos) (sRet f) := fun W tk => ps_imp (ps_ret (he W tk)) fun D σ H ⟨F, r, Hi, R, h⟩ =>
  ⟨F, r, Hi, R, (Pt.lift R h).imp fun d Hi1 H1 _ e1 k v rv => (k e1 (R.ext e1)).2 v H1 (R.ext e1).gr ((R.ext e1).back (k e1 (R.ext e1)).1 rv.rp)⟩
theorem gs_retN (he : GN X e n) : GS X (.Return (some e) pos) (sRetN n) := fun W tk => ps_imp (ps_ret (he W tk)) fun D σ H ⟨F, r, Hi, R, h⟩ =>
  ⟨F, r, Hi, R, (Pt.lift R h).imp fun d Hi1 H1 _ e1 k a xs hn ha hi q => (k e1 (R.ext e1)).2 a xs H1 (R.ext e1).gr (Sm.free R.base hn) ha ((R.ext e1).backN (k e1 (R.ext e1)).1 hi q)⟩
theorem gs_retO (i : Nat) {x : Str} {px : Pos} (hN : X.N[i]? = some x) (hv : Vis X.env.scope x) (hd : (x == ("__debug__" : Str)) = false := by decide) (hcd : (x == ("__classdict__" : Str)) = false := by decide) : GS X (.Return (some (.Name x px)) pos) (sRetO i) := fun W tk =>
  ps_imp (ps_ret (pe_var (i := i) hN hv hd hcd)) fun D σ H ⟨F, r, Hi, R, h⟩ => by
    unfold sRetO at h
    split at h
    · rename_i ds e
      obtain ⟨a, xs, ev, ha, hi, h0, rv⟩ := R.slot i _ e
      exact ⟨_, ev, h.2 a xs H R.gr h0 ha (R.backN h.1 hi rv)⟩
    · exact h.elim
/-! ### lists of one's own -/
theorem gs_app (i : Nat) {x : Str} {p1 p2 p3 : Pos} (hN : X.N[i]? = some x) (hv : Vis X.env.scope x) (he : GE X true e f) (hd : (x == ("__debug__" : Str)) = false := by decide) (hcd : (x == ("__classdict__" : Str)) = false := by decide)
    (hs : swapsWith (.Call (.Attribute (.Name x p1) "append" p2) [e] [] p3) none pos.line X.env = pure false := by rfl) (hpe : ∀ te, PE X e te → PE X (.Call (.Attribute (.Name x p1) "append" p2) [e] [] p3) (tBM X.K "list" (rAppend) (tVar i) (tCons te tNil))) :
    GS X (.Expr (.Call (.Attribute (.Name x p1) "append" p2) [e] [] p3) pos) (sApp i f) := fun W tk => ps_imp (ps_expr (hpe _ (he W tk)) hs) fun D σ H ⟨F, r, Hi, R, h⟩ => by
  unfold sApp at h
  split at h
  · rename_i ds er
    obtain ⟨a, xs, ev, ha, hi, h0, rv⟩ := R.slot i _ er
    refine ⟨_, ev, .inl ⟨rfl, _, SqL.of ha⟩, F, r, Hi, R, (Pt.lift R h).imp fun d Hi1 H1 _ e1 k v rvd => ?_⟩
    have k := k e1 (R.ext e1)
    have ha1 := e1.h.lst ha
    have hi1 := e1.out _ _ ha hi
    split at k
    · rename_i hl
      refine ⟨a, xs, v, rfl, rfl, ha1, ?_, ?_⟩
      · rw [← rv.length]; exact lt_line hl
      · exact k σ Hi1 _ ((R.ext e1).chg er ev hi1 h0 ((rv.same e1.hi).append (.cons rvd.rp .nil))) (Sm.refl _)
    · exact k.elim
  · exact h.elim
theorem gs_ext (i : Nat) {x : Str} {p1 p2 p3 : Pos} (hN : X.N[i]? = some x) (hv : Vis X.env.scope x) (he : GN X e n) (hd : (x == ("__debug__" : Str)) = false := by decide) (hcd : (x == ("__classdict__" : Str)) = false := by decide)
    (hs : swapsWith (.Call (.Attribute (.Name x p1) "extend" p2) [e] [] p3) none pos.line X.env = pure false := by rfl) (hpe : ∀ te, PE X e te → PE X (.Call (.Attribute (.Name x p1) "extend" p2) [e] [] p3) (tBM X.K "list" (rExtend) (tVar i) (tCons te tNil))) :
    GS X (.Expr (.Call (.Attribute (.Name x p1) "extend" p2) [e] [] p3) pos) (sExt i n) := fun W tk => ps_imp (ps_expr (hpe _ (he W tk)) hs) fun D σ H ⟨F, r, Hi, R, h⟩ => by
  unfold sExt at h
  split at h
  · rename_i ds er
    obtain ⟨a, xs, ev, ha, hi, h0, rv⟩ := R.slot i _ er
    refine ⟨_, ev, .inl ⟨rfl, _, SqL.of ha⟩, F, r, Hi, R, (Pt.lift R h).imp fun es Hi1 H1 _ e1 k b zs hnb hb hib q => ?_⟩
    have k := k e1 (R.ext e1)
    have ha1 := e1.h.lst ha
    have hi1 := e1.out _ _ ha hi
    split at k
    · rename_i hl
      refine ⟨a, b, xs, zs, rfl, rfl, ha1, hb, ?_, ?_⟩
      · rw [← rv.length, ← q.length]; exact le_line hl
      · exact k σ Hi1 _ ((R.ext e1).chg er ev hi1 h0 ((rv.same e1.hi).append q)) (Sm.refl _)
    · exact k.elim
  · exact h.elim
end
end GM

/-! GMg: further statements, loops, raise, try, the rule of a def. -/
namespace GM
open PySem PySem.Spec PyProof.Rows L2
variable [Tb]
section
variable {X : Cx} {p q : Bool} {e a b c tg iter elt : Expr} {es : List Expr} {f g h : Ee} {n m src : En} {pos : Pos} {K : PySem.W.Frag} {F : Fm} {r : Env} {σ : L2.St} {Hi H Hi' H' : Hp} {st : Stmt} {sts : List Stmt} {ga gb : Es} {W : WX} {Z : Ends}
section
variable [Md]
theorem gs_put (i : Nat) {x : Str} {p1 p2 : Pos} (hN : X.N[i]? = some x) (hv : Vis X.env.scope x) (he : GE X true e f) (hi : GE X true a g) (hd : (x == ("__debug__" : Str)) = false := by decide) (hcd : (x == ("__classdict__" : Str)) = false := by decide)
    (hps : ∀ to te ti, PE X (.Name x p1) to → PE X e te → PE X a ti → PS X (.Assign [.Subscript (.Name x p1) a p2] e pos) (tAsg te (L2.gSub to ti rSetL))) : GS X (.Assign [.Subscript (.Name x p1) a p2] e pos) (sPut i g f) := fun W tk =>
  ps_imp (hps _ _ _ (pe_var (i := i) hN hv hd hcd) (he W tk) (hi W tk)) fun D σ H ⟨F, r, Hi, R, h⟩ => by
    refine ⟨F, r, Hi, R, (Pt.lift R h).imp fun d Hi1 H1 _ e1 k v rv => ?_⟩
    have R1 := R.ext e1
    have k := k e1 R1
    split at k
    · rename_i ds er
      obtain ⟨b, xs, ev, hb, hib, h0, qs⟩ := R1.slot i _ er
      refine ⟨_, ev, F, r, Hi1, R1, (Pt.lift R1 k).imp fun z Hi2 H2 _ e2 k u ru => ?_⟩
      have R2 := R1.ext e2
      have k := k e2 R2
      cases z with
      | int z =>
        have k : Pt X W F Hi2 D (match ixN ds.length z with | some j => .nx (r.set i (.own (ds.set j d))) | none => .bad) := k
        split at k
        · rename_i j hj
          rw [ru.int]
          have hb2 := e2.h.lst hb
          have hi2 := e2.out _ _ hb hib
          refine ⟨b, xs, z, j, rfl, rfl, hb2, ?_, ?_⟩
          · rw [← qs.length, ← ixN_is]; exact hj
          · exact k σ Hi2 _ (R2.chg er ev hi2 h0 (Rps.set (rv.rp.same e2.hi) j (qs.same e2.hi))) (Sm.refl _)
        · exact k.elim
      | _ => exact k.elim
    · exact k.elim
theorem gs_popIx (i ia ib : Nat) {x y z : Str} {p1 p2 p3 p4 p5 p6 p7 : Pos} {j : Nat} (hab : ia ≠ ib) (hNz : X.N.Nodup) (hiz : X.N[i]? = some z) (hlz : Loc X.env.scope z) (hf : X.fn z = true ∨ X.env.scope.names.lookup z = some .local)
    (hNa : X.N[ia]? = some x) (hva : Vis X.env.scope x) (hNb : X.N[ib]? = some y) (hvb : Vis X.env.scope y)
    (hda : (x == ("__debug__" : Str)) = false := by decide) (hcda : (x == ("__classdict__" : Str)) = false := by decide) (hdb : (y == ("__debug__" : Str)) = false := by decide) (hcdb : (y == ("__classdict__" : Str)) = false := by decide)
    (hs : swapsWith (.Subscript (.Name x p1) (.Call (.Attribute (.Name y p2) "pop" p3) [.Constant (.int 0) j p4] [] p5) p6) (some (.Name z p7)) pos.line X.env = pure false := by rfl)
    (hpl : PlainIx (.Call (.Attribute (.Name y p2) "pop" p3) [.Constant (.int 0) j p4] [] p5) := by exact fun _ _ => rfl)
    (hpe : ∀ te to, PE X (.Name y p2) to → PE X (.Constant (.int 0) j p4) te → PE X (.Call (.Attribute (.Name y p2) "pop" p3) [.Constant (.int 0) j p4] [] p5) (tBM X.K "list" rPopAt to (tCons te tNil))) :
    GS X (.Assign [.Name z p7] (.Subscript (.Name x p1) (.Call (.Attribute (.Name y p2) "pop" p3) [.Constant (.int 0) j p4] [] p5) p6) pos) (sPopIx i ia ib) := fun W tk =>
  ps_imp (ps_set (i := i) hNz hiz hlz (pe_ix ix_list (pe_var (i := ia) hNa hva hda hcda) (hpe _ _ (pe_var (i := ib) hNb hvb hdb hcdb) pe_int) hpl) hs hf) fun D σ H ⟨F, r, Hi, R, h⟩ => by
    unfold sPopIx at h
    split at h
    · rename_i xs k ys er1 er2
      split at h
      · rename_i d hd
        obtain ⟨a, vs, ev, ha, hia, h0a, qa⟩ := R.slot ia _ er1
        obtain ⟨b, us, eb, hb, hib, h0b, qb⟩ := R.slot ib _ er2
        have nab : a ≠ b := fun c => by subst c; exact R.inj ia ib _ _ a hab er1 er2 ev eb
        cases qb with
        | cons q1 qr =>
          rename_i u1 ur
          cases q1
          refine ⟨_, ev, _, eb, .inl ⟨rfl, _, SqL.of hb⟩, b, _, 0, 0, .int k, rfl, rfl, hb, by omega, by omega, ?_, rfl, ?_⟩
          · unfold seqIndex?; simp
          · obtain ⟨v, hv, rv⟩ := atI_rps qa hd
            refine ⟨a, vs, k, v, rfl, rfl, SqL.of ?_, hv, ?_⟩
            · rw [upd_ne nab]; exact ha
            · exact h _ Hi _ ((R.chg er2 eb hib h0b qr).setI rv) (Sm.refl _)
      · exact h.elim
    · exact h.elim
theorem gs_par {i j : Nat} {x y : Str} {px py pt : Pos} {kt k2 : Nat} {pt2 : Pos} (hc : X.calm = true) (hN : X.N.Nodup) (hi : X.N[i]? = some x) (hj : X.N[j]? = some y) (hij : i ≠ j)
    (hx : X.env.scope.names.lookup x = some .local) (hy : X.env.scope.names.lookup y = some .local) (ha : GE X true a f) (hb : GE X true b g)
    (hw : swappedStores [.Tuple [.Name x px, .Name y py] kt pt] (.Tuple [a, b] k2 pt2) X.env = pure (some [x, y]))
    (he1 : starEach [a, b] X.env = (false, eval a X.env) :: starEach [b] X.env := by rfl) (he2 : starEach [b] X.env = (false, eval b X.env) :: starEach [] X.env := by rfl)
    (hs : swapsWithSole [.Tuple [.Name x px, .Name y py] kt pt] (.Tuple [a, b] k2 pt2) pos.line X.env = pure false := by rfl) :
    GS X (.Assign [.Tuple [.Name x px, .Name y py] kt pt] (.Tuple [a, b] k2 pt2) pos) (sPar i j f g) := fun W tk =>
  ps_imp (ps_par hc hN hi hj hij hx hy (pa_cons (ha W tk) (pa_cons (hb W tk) pa_nil he2) he1) hw hs) fun D σ H ⟨F, r, Hi, R, h⟩ => by
    refine ⟨F, r, Hi, R, (Pt.lift R h).imp fun d Hi1 H1 _ e1 k v rv => ?_⟩
    have R1 := R.ext e1
    refine ⟨F, r, Hi1, R1, (Pt.lift R1 (k e1 R1)).imp fun d2 Hi2 H2 _ e2 k u ru => ?_⟩
    have R2 := R1.ext e2
    exact ⟨v, u, rfl, k e2 R2 _ Hi2 H2 ((R2.setI (rv.rp.same e2.hi)).setI ru.rp) (Sm.refl _)⟩
theorem gs_asg {gt : Tg} {vs : List Nat} (he : GE X true e f) (hg : GG X tg gt vs) (hs : swapsWithSole [tg] e pos.line X.env = pure false := by rfl) (hw : swappedStores [tg] e X.env = pure none := by rfl)
    (h1 : (assignEach [tg] X.env).map (·.2) = [assign tg X.env] := by rfl) : GS X (.Assign [tg] e pos) (sAsg f gt) := fun W tk => ps_imp (ps_asg (he W tk) hg hs hw h1) fun D σ H ⟨F, r, Hi, R, h⟩ => by
  refine ⟨F, r, Hi, R, (Pt.lift R h).imp fun d Hi1 H1 _ e1 k v rv => ?_⟩
  have R1 := R.ext e1
  have k := k e1 R1
  cases hq : gt d r with
  | ok q =>
    rw [hq] at k
    exact ⟨F, r, Hi1, d, q, R1, rv.rp, hq, fun σ' R' _ => k σ' Hi1 H1 R' (Sm.refl _)⟩
  | ex c => rw [hq] at k; exact k.elim
  | bad => rw [hq] at k; exact k.elim
theorem gs_aug (i : Nat) {x : Str} {p1 : Pos} (hN : X.N.Nodup) (hi : X.N[i]? = some x) (hx : Loc X.env.scope x) (he : GE X true e f) (hf : X.fn x = true ∨ X.env.scope.names.lookup x = some .local := by first | exact .inl rfl | exact .inr rfl | assumption) :
    GS X (.AugAssign (.Name x p1) .Add e pos) (sAug i f) := fun W tk => ps_imp (ps_aug (i := i) hN hi hx (he W tk) ip_add hf) fun D σ H ⟨F, r, Hi, R, h⟩ => by
  unfold sAug at h
  split at h
  · rename_i x er
    obtain ⟨v, ev, rv⟩ := R.slot i _ er
    refine ⟨v, ev, F, r, Hi, R, (Pt.lift R h).imp fun y Hi1 H1 _ e1 k u ru => ?_⟩
    have R1 := R.ext e1
    have k := k e1 R1
    cases x with
    | int s =>
      cases y with
      | int t =>
        have ev' : v = .int s := by cases rv; rfl
        rw [ev', ru.int]
        exact ⟨s, t, rfl, rfl, k _ Hi1 H1 (R1.setI (.int _)) (Sm.refl _)⟩
      | _ => exact k.elim
    | _ => exact k.elim
  · exact h.elim
theorem gs_move (i j : Nat) {x y : Str} {p1 p2 : Pos} (hN : X.N.Nodup) (hi : X.N[i]? = some x) (hx : Loc X.env.scope x) (hj : X.N[j]? = some y) (hv : Vis X.env.scope y) (hd : (y == ("__debug__" : Str)) = false := by decide) (hcd : (y == ("__classdict__" : Str)) = false := by decide)
    (hs : swapsWith (.Name y p2) (some (.Name x p1)) pos.line X.env = pure false := by rfl) (hf : X.fn x = true ∨ X.env.scope.names.lookup x = some .local := by first | exact .inl rfl | exact .inr rfl | assumption) :
    GS X (.Assign [.Name x p1] (.Name y p2) pos) (sMove i j) := fun W tk => ps_imp (ps_set (i := i) hN hi hx (pe_var (i := j) hj hv hd hcd) hs hf) fun D σ H ⟨F, r, Hi, R, h⟩ => by
  unfold sMove at h
  split at h
  · rename_i ds er
    obtain ⟨a, xs, ev, ha, hia, h0, qs⟩ := R.slot j _ er
    have sm : Sm Hi (upd Hi a (.lst xs)) := Sm.new hia
    have R1 : Rel X.K F (r.set j .no) σ (upd Hi a (.lst xs)) H := by
      have R0 := R.setNo (i := j)
      refine ⟨R.sub.updL ha, R.base, R.tabs, fun m b zs e => ?_, fun k sv e => ?_, R0.inj, R0.len⟩
      · by_cases c : b = a
        · subst c; rw [h0] at e; cases e
        · rw [upd_ne c]; exact R.mode m b zs e
      · have s := R0.slot k sv e
        cases sv with
        | no => trivial
        | imm d => obtain ⟨v, e1, rv⟩ := s; exact ⟨v, e1, rv.same sm⟩
        | own dk =>
          obtain ⟨b, zs, e1, h1, h2, h3, h4⟩ := s
          refine ⟨b, zs, e1, h1, ?_, h3, h4.same sm⟩
          rw [set_get] at e
          by_cases c : j = k
          · rw [if_pos c] at e; split at e <;> cases e
          · rw [if_neg c] at e
            rw [upd_ne (fun z => by subst z; exact R.inj j k ds dk b c er e ev e1)]
            exact h2
    exact ⟨_, ev, h _ _ H (R1.setI (.lst upd_same (qs.same sm))) sm⟩
  · exact h.elim
/-! ### loops -/
theorem gs_while {t : Et} (fuel : Nat) (hp : PassesOwn (model X.prog X.w) X.A X.env X.xe) (hc : GT X c t) (hb : GSs X sts gb) : GS X (.While c sts [] pos) (sWh fuel t gb) := fun W tk => ps_imp (ps_while hp (hc W tk) (hb W tk)) fun D σ H ⟨F, r, Hi, R, h⟩ => by
  refine ⟨fun m σ' H' => ∃ q Hi', Rel X.K F q σ' Hi' H' ∧ Sm Hi Hi' ∧ Pt X W F Hi' D (whGo t gb m q), ⟨fuel, r, Hi, R, Sm.refl _, h⟩, ?_⟩
  rintro m σ1 H1 ⟨q, Hi1, R1, s1, h1⟩
  cases m with
  | zero => exact h1.elim
  | succ m =>
    refine ⟨F, q, Hi1, R1, (Pt.lift R1 h1).imp fun b Hi2 H2 _ e2 k => ?_⟩
    have R2 := R1.ext e2
    have k := k e2 R2
    cases b with
    | false => exact iteF (k σ1 Hi2 H2 R2 (Sm.refl _))
    | true =>
      refine iteT ⟨fun σ' H' => ∃ q Hi', Rel X.K F q σ' Hi' H' ∧ Sm Hi Hi' ∧ Pt X W F Hi' D (whGo t gb m q), fun σ' H' nx => ⟨m, Nat.lt_succ_self m, nx⟩, F, q, Hi2, R2, ?_⟩
      have k : Pt X W F Hi2 D (match gb q with | .nx q => whGo t gb m q | .bk q => .nx q | o => o) := k
      revert k
      cases gb q with
      | nx q' => exact fun k σ' Hi' H' R' s => ⟨q', Hi', R', (s1.trans e2.hi).trans s, k.same s⟩
      | bk q' => exact id
      | rt d => exact id
      | rn ds => exact id
      | ex c q' => exact id
      | bad => exact id
theorem gs_for {gt : Tg} {vs : List Nat} (hp : PassesOwn (model X.prog X.w) X.A X.env X.xe) (hc : X.calm = true) (hi : GI X true tg iter src) (hg : GG X tg gt vs) (hb : GSs X sts gb) (hs : ∀ x, foldedSetIterable iter X.env x = pure x := by intro _; rfl) :
    GS X (.For tg iter sts [] pos) (sFor src gt gb) := fun W tk => ps_imp (ps_for hp hc (hi W tk) hg (hb W tk) hs) fun D σ H ⟨F, r, Hi, R, h⟩ => by
  refine ⟨F, r, Hi, R, (Pt.lift R h).imp fun items Hi1 H1 _ e1 k J wk => ?_⟩
  have R1 := R.ext e1
  have k := k e1 R1
  refine ⟨fun i m σ' H' => m = items.length - i ∧ i ≤ items.length ∧ ∃ q Hi', Rel X.K F q σ' Hi' H' ∧ Sm Hi1 Hi' ∧ Pt X W F Hi' D (forGo gt gb (items.drop i) q), ⟨items.length, by simp, Nat.zero_le _, r, Hi1, R1, Sm.refl _, by simpa using k⟩, ?_⟩
  rintro i m σ2 H2 ⟨rfl, hi, q, Hi2, R2, s2, h2⟩
  obtain ⟨stp, stepi⟩ := wk Hi2 H2 s2 R2.sub fun z => nomatch z
  by_cases hlt : i < items.length
  · refine .inr ?_
    obtain ⟨go, yl⟩ := stepi i items[i] (by simp [hlt])
    rw [drop_cons' hlt] at h2
    refine ⟨go, fun σ' H' => ∃ q Hi', Rel X.K F q σ' Hi' H' ∧ Sm Hi1 Hi' ∧ Pt X W F Hi' D (forGo gt gb (items.drop (i + 1)) q), fun σ' H' nx => ⟨items.length - (i + 1), by omega, rfl, hlt, nx⟩, fun v H3 y => ?_⟩
    obtain ⟨Hi3, e3, rv⟩ := yl v H3 y
    have R3 := R2.ext e3
    unfold forGo at h2
    cases hq : gt items[i] q with
    | ok q1 =>
      rw [hq] at h2
      refine ⟨F, q, Hi3, items[i], q1, R3, rv, hq, fun σ' R' _ => ⟨F, q1, Hi3, R', ?_⟩⟩
      have h2 : Pt X W F Hi2 D (match gb q1 with | .nx q => forGo gt gb (items.drop (i + 1)) q | .bk q => .nx q | o => o) := h2
      revert h2
      cases gb q1 with
      | nx q' => exact fun h2 σ' Hi' H' R' s => ⟨q', Hi', R', (s2.trans e3.hi).trans s, h2.same (e3.hi.trans s)⟩
      | bk q' => exact fun h2 => h2.same e3.hi
      | rt d => exact id
      | rn ds => exact id
      | ex c q' => exact fun h2 => Pt.same (o := .ex c q') h2 e3.hi
      | bad => exact id
    | ex c => rw [hq] at h2; exact h2.elim
    | bad => rw [hq] at h2; exact h2.elim
  · have ei : i = items.length := by omega
    subst ei
    rw [List.drop_length] at h2
    exact .inl ⟨stp, h2 σ2 Hi2 H2 R2 (Sm.refl _)⟩

/-! ### raise, try -/
theorem ps_raiseM [m : Md] {W : WX} {C : Addr} (hc : X.calm = true) (hm : PMk X e (fun _ H Q => Q (.ref C) none H)) (hm2 : L2N.PMk X e (fun _ H Q => Q (.ref C) none H)) (tk : Tk X W) : PS X (.Raise (some e) none pos) (fun _ σ H => W (.ref C) none σ H) := by
  obtain ⟨b⟩ := m
  cases b
  · exact L2.ps_raise hc (show L2.Takes X W from tk) hm
  · exact L2N.ps_raise hc (show L2N.Takes X W from tk) hm2
theorem gs_raise {x : String} {C : Addr} (hc : X.calm = true) (hm : PMk X e (fun _ H Q => Q (.ref C) none H)) (hm2 : L2N.PMk X e (fun _ H Q => Q (.ref C) none H)) (gC : X.mg (Str.ofString x) = some (.ref C)) : GS X (.Raise (some e) none pos) (sRaise x) := fun W tk =>
  ps_imp (ps_raiseM hc hm hm2 tk) fun D σ H ⟨F, r, Hi, R, h⟩ => h σ Hi H _ R (Sm.refl _) gC
/-- what isinstance tells of the error that the suite holds -/
def GX (X : Cx) (i : Nat) (a : Addr) (e : Expr) (b : Bool) : Prop := PE X e (fun σ H Q => σ[i]? = some (some (.ref a)) ∧ Q (.bl b) H)
def GXs (X : Cx) (i : Nat) (a : Addr) (es : List Expr) (bs : List Bool) : Prop := PA X es (fun σ H Q => σ[i]? = some (some (.ref a)) ∧ Q (bs.map V.bl) H)
theorem gx_nil {i : Nat} {a : Addr} : GXs X i a [] [] := pa_imp pa_nil fun σ H Q h => h.2
theorem gx_cons {i : Nat} {a : Addr} {d : Bool} {bs : List Bool} (h : GX X i a e d) (t : GXs X i a es bs) (hs : starEach (e :: es) X.env = (false, eval e X.env) :: starEach es X.env := by rfl) : GXs X i a (e :: es) (d :: bs) :=
  pa_imp (pa_cons h t hs) fun σ H Q h => ⟨h.1, h.1, h.2⟩
theorem gx_isi {i : Nat} {a D : Addr} {oe : Obj} {pn : List (Addr × Obj)} {n T : Str} {d : Bool} {cv : V} {u : Value} {px p1 p2 : Pos} (C : ExcC X.K D) (hz : Zc (.ref D) none oe) (hf : ∃ vs, oe.data = .fields vs) (hg : Gl (X.suite a ((a, oe) :: pn)) "isinstance") (hm : X.mg "isinstance" = none)
    (hN : X.N[i]? = some n) (hv : Vis X.env.scope n) (hT : PE (X.suite a ((a, oe) :: pn)) (.Name T p2) (tC cv)) (hcv : ∀ w, RelV cv w → w = u) (hk : PySem.W.kitOne X.K (.ref D) u = some d) (hd : (n == ("__debug__" : Str)) = false := by decide) (hcd : (n == ("__classdict__" : Str)) = false := by decide)
    (he : starEach [.Name n p1, .Name T p2] (X.suite a ((a, oe) :: pn)).env = (false, eval (.Name n p1) (X.suite a ((a, oe) :: pn)).env) :: starEach [.Name T p2] (X.suite a ((a, oe) :: pn)).env := by rfl) (he2 : starEach [.Name T p2] (X.suite a ((a, oe) :: pn)).env = (false, eval (.Name T p2) (X.suite a ((a, oe) :: pn)).env) :: starEach [] (X.suite a ((a, oe) :: pn)).env := by rfl)
    (hpl : (backTo pos (starEach [.Name T p2] (X.suite a ((a, oe) :: pn)).env)).any (·.1) = false := by rfl) :
    GX (X.suite a ((a, oe) :: pn)) i a (.Call (.Name "isinstance" px) [.Name n p1, .Name T p2] [] pos) d :=
  pe_imp (pe_callB (call_isE C hz hf) hg hm (by decide +kernel) (pa_cons (pe_var (X := X.suite a ((a, oe) :: pn)) (i := i) hN hv hd hcd) (pa_cons hT pa_nil he2) he) (by decide) (by decide) he hpl) fun σ H Q h => ⟨_, h.1, cv, u, d, rfl, hcv, hk, h.2⟩
/-- the suite: return [isinstance(..), ..] -/
def tSuL (i : Nat) (bs : List Bool) (a : Addr) : TS := fun D σ H => σ[i]? = some (some (.ref a)) ∧ ∀ p, H p = none → D.rt (.ref p) (upd H p (.lst (bs.map V.bl)))
def tSuB (i : Nat) (b : Bool) (a : Addr) : TS := fun D σ H => σ[i]? = some (some (.ref a)) ∧ D.rt (.bl b) H
theorem su_list {i : Nat} {a : Addr} {bs : List Bool} {p2 : Pos} (hl : bs.length ≤ 1000) (h : GXs X i a es bs) : PSs X [.Return (some (.List es pos)) p2] (tSuL i bs a) := pss_imp (pss_one (ps_ret (pe_lst h))) fun D σ H h =>
  ⟨h.1, by rw [List.length_map]; exact Nat.le_of_lt (small1000 hl), fun p hp => h.2 p hp⟩
theorem su_bool {i : Nat} {a : Addr} {d : Bool} {p2 : Pos} (h : GX X i a e d) : PSs X [.Return (some e) p2] (tSuB i d a) := pss_imp (pss_one (ps_ret h)) fun D σ H h => h
theorem Rel.rtB (R : Rel K F r σ Hi H) {d : Bool} : Rp K (GM.vw F.H0 H) (.bl d) (.bl d) := .bl d
theorem rps_bls : ∀ (bs : List Bool), Rps K H (bs.map D.bl) (bs.map V.bl)
  | [] => .nil
  | b :: r => .cons (.bl b) (rps_bls r)
theorem noLs_bls : ∀ (bs : List Bool), noLs (bs.map D.bl) = true
  | [] => rfl
  | b :: r => by show (true && noLs (r.map D.bl)) = true; rw [noLs_bls r] <;> rfl
end
section
variable {body suite : List Stmt} {b₀ : Stmt} {x y : Str} {np pos' : Pos} {cs : String → Option Bool} {cv : Value} {fb : Es}
/-- try: body except C as n: return [isinstance(n, ..), ..] -/
theorem gs_tryL {i : Nat} {bs : String → List Bool} (hs : X.stack = X.env :: X.outer) (hf : X.env.frame = some X.env.locals) (hN : X.N.Nodup) (hi : X.N[i]? = some y) (hln : X.env.kindOf y = some .local) (hc : Names X x cv)
    (hb : ∀ (pn : List (Addr × Obj)) (xe : Value → Shared → Prop), PassesOwn (model X.prog X.w) X.A X.env xe → GSs (X.tr pn xe) body fb)
    (hex : ∀ c u k, cs c = some k → clsOf X c u → PySem.W.exmOne X.K u cv = some k)
    (ts : Addr → Value → Option Addr → TS)
    (hsu : ∀ (a : Addr) (oe : Obj) (u : Value) (d : Option Addr) (pn : List (Addr × Obj)), Zc u d oe → (∃ vs, oe.data = .fields vs) → PSs (X.suite a ((a, oe) :: pn)) (b₀ :: suite) (ts a u d))
    (hts : ∀ c u a Z σ H, cs c = some true → clsOf X c u → tSuL i (bs c) a Z σ H → ts a u none Z σ H) :
    GS X (.Try body [.ExceptHandler (some (.Name x np)) (some y) (b₀ :: suite) pos'] [] [] pos) (sTry cs fb (suL i bs)) := fun W tk =>
  ps_imp (ps_try_as (i := i) (tb := fun W => tS X W fb) (ts := ts) hs hf hN hi hln hc tk (fun W pn xe tk' po => hb pn xe po W tk') hsu) fun Z σ H ⟨F, r, Hi, R, h⟩ => by
    refine ⟨F, r, Hi, R, ?_⟩
    unfold sTry at h
    revert h
    cases fb r with
    | nx q => exact id
    | bk q => exact id
    | rt d => exact id
    | rn ds => exact id
    | bad => exact id
    | ex c q =>
      intro h σ' Hi' H' u R' s hu
      have h : Pt X W F Hi Z (match cs c with | some true => noRaise (suL i bs c q) | some false => .ex c q | none => .bad) := h
      cases hk : cs c with
      | none => rw [hk] at h; exact h.elim
      | some k =>
        rw [hk] at h
        refine ⟨k, hex c u k hk hu, fun e a ha => ?_, fun e => ?_⟩
        · subst e
          have h : Pt X W F Hi Z (noRaise (if i < q.length then .rn ((bs c).map GM.D.bl) else .bad)) := h
          split at h
          · rename_i hl
            refine hts c u a _ _ _ hk hu ⟨?_, fun p hp => ?_⟩
            · rw [set_get, if_pos rfl, if_pos (by rw [← R'.len]; exact hl)]
            · exact h.2 p _ _ ⟨R'.base.updR hp, fun _ => tab_upd hp R'.tabs⟩ (Sm.free R'.base hp) upd_same (noLs_to (noLs_bls _) (rps_bls (H := fun _ => none) _) fun b o z => by cases z)
          · exact h.elim
        · subst e
          exact h σ' Hi' H' u R' s hu
/-- .. return isinstance(n, C) -/
theorem gs_tryB {i : Nat} {bs : String → Bool} (hs : X.stack = X.env :: X.outer) (hf : X.env.frame = some X.env.locals) (hN : X.N.Nodup) (hi : X.N[i]? = some y) (hln : X.env.kindOf y = some .local) (hc : Names X x cv)
    (hb : ∀ (pn : List (Addr × Obj)) (xe : Value → Shared → Prop), PassesOwn (model X.prog X.w) X.A X.env xe → GSs (X.tr pn xe) body fb)
    (hex : ∀ c u k, cs c = some k → clsOf X c u → PySem.W.exmOne X.K u cv = some k)
    (ts : Addr → Value → Option Addr → TS)
    (hsu : ∀ (a : Addr) (oe : Obj) (u : Value) (d : Option Addr) (pn : List (Addr × Obj)), Zc u d oe → (∃ vs, oe.data = .fields vs) → PSs (X.suite a ((a, oe) :: pn)) (b₀ :: suite) (ts a u d))
    (hts : ∀ c u a Z σ H, cs c = some true → clsOf X c u → tSuB i (bs c) a Z σ H → ts a u none Z σ H) :
    GS X (.Try body [.ExceptHandler (some (.Name x np)) (some y) (b₀ :: suite) pos'] [] [] pos) (sTry cs fb (suB i bs)) := fun W tk =>
  ps_imp (ps_try_as (i := i) (tb := fun W => tS X W fb) (ts := ts) hs hf hN hi hln hc tk (fun W pn xe tk' po => hb pn xe po W tk') hsu) fun Z σ H ⟨F, r, Hi, R, h⟩ => by
    refine ⟨F, r, Hi, R, ?_⟩
    unfold sTry at h
    revert h
    cases fb r with
    | nx q => exact id
    | bk q => exact id
    | rt d => exact id
    | rn ds => exact id
    | bad => exact id
    | ex c q =>
      intro h σ' Hi' H' u R' s hu
      have h : Pt X W F Hi Z (match cs c with | some true => noRaise (suB i bs c q) | some false => .ex c q | none => .bad) := h
      cases hk : cs c with
      | none => rw [hk] at h; exact h.elim
      | some k =>
        rw [hk] at h
        refine ⟨k, hex c u k hk hu, fun e a ha => ?_, fun e => ?_⟩
        · subst e
          have h : Pt X W F Hi Z (noRaise (if i < q.length then .rt (.bl (bs c)) else .bad)) := h
          split at h
          · rename_i hl
            refine hts c u a _ _ _ hk hu ⟨?_, ?_⟩
            · rw [set_get, if_pos rfl, if_pos (by rw [← R'.len]; exact hl)]
            · exact h.2 _ _ R'.gr (.bl _)
          · exact h.elim
        · subst e
          exact h σ' Hi' H' u R' s hu
/-- try: body except C: suite -/
theorem gs_tryO {fs : String → Es} (hs : X.stack = X.env :: X.outer) (hf : X.env.frame = some X.env.locals) (hc : Names X x cv)
    (hb : ∀ (pn : List (Addr × Obj)) (xe : Value → Shared → Prop), PassesOwn (model X.prog X.w) X.A X.env xe → GSs (X.tr pn xe) body fb)
    (hex : ∀ c u k, cs c = some k → clsOf X c u → PySem.W.exmOne X.K u cv = some k) {f0 : Es} (hfs : ∀ c, fs c = f0)
    (hsu : ∀ (a : Addr) (oe : Obj) (pn : List (Addr × Obj)), GSs (X.suite a ((a, oe) :: pn)) (b₀ :: suite) f0) :
    GS X (.Try body [.ExceptHandler (some (.Name x np)) none (b₀ :: suite) pos'] [] [] pos) (sTry cs fb fs) := fun W tk =>
  ps_imp (ps_try_only (tb := fun W => tS X W fb) (ts := fun _ _ _ => tS X W0 f0) hs hf hc tk (fun W pn xe tk' po => hb pn xe po W tk') (fun a oe u d pn _ _ => hsu a oe pn W0 tk0)) fun Z σ H ⟨F, r, Hi, R, h⟩ => by
    refine ⟨F, r, Hi, R, ?_⟩
    unfold sTry at h
    revert h
    cases fb r with
    | nx q => exact id
    | bk q => exact id
    | rt d => exact id
    | rn ds => exact id
    | bad => exact id
    | ex c q =>
      intro h σ' Hi' H' u R' s hu
      have h : Pt X W F Hi Z (match cs c with | some true => noRaise (fs c q) | some false => .ex c q | none => .bad) := h
      cases hk : cs c with
      | none => rw [hk] at h; exact h.elim
      | some k =>
        rw [hk] at h
        refine ⟨k, hex c u k hk hu, fun e a ha => ?_, fun e => ?_⟩
        · subst e
          have h : Pt X W F Hi Z (noRaise (fs c q)) := h
          rw [hfs c] at h
          refine ⟨F, q, Hi', R', ?_⟩
          revert h
          cases f0 q with
          | nx q' => exact fun h => (Pt.same (o := .nx q') h s)
          | bk q' => exact fun h => (Pt.same (o := .bk q') h s)
          | rt d => exact id
          | rn ds => exact id
          | ex c q' => exact fun h => h.elim
          | bad => exact id
        · subst e
          exact h σ' Hi' H' u R' s hu
end
end
/-! ### the rule of a def -/
theorem start_get (N : List Str) (vs : List V) (i : Nat) : (L2.start N vs)[i]? = if i < vs.length then (vs[i]?).map some else if i < N.length then some none else none := by
  unfold L2.start
  by_cases h : i < vs.length
  · rw [if_pos h, List.getElem?_append_left (by simpa using h), List.getElem?_map]
  · rw [if_neg h, List.getElem?_append_right (by simpa using h), List.length_map, List.getElem?_replicate]
    by_cases h2 : i < N.length
    · rw [if_pos h2, if_pos (by omega)]
    · rw [if_neg h2, if_neg (by omega)]
theorem startE_get (n : Nat) (ds : List D) (i : Nat) : (startE n ds)[i]? = if i < ds.length then (ds[i]?).map SV.imm else if i < n then some .no else none := by
  unfold startE
  by_cases h : i < ds.length
  · rw [if_pos h, List.getElem?_append_left (by simpa using h), List.getElem?_map]
  · rw [if_neg h, List.getElem?_append_right (by simpa using h), List.length_map, List.getElem?_replicate]
    by_cases h2 : i < n
    · rw [if_pos h2, if_pos (by omega)]
    · rw [if_neg h2, if_neg (by omega)]
theorem rel_start {K : PySem.W.Frag} {F : Fm} {Hi : Hp} {N : List Str} {ds : List D} {vs : List V} (tb : Tbs F.H0) (s : Sm Hi F.H0) (m : F.m = false → ∀ a xs, F.H0 a = some (.lst xs) → Hi a = none) (q : Rps K Hi ds vs) : Rel K F (startE N.length ds) (L2.start N vs) Hi F.H0 where
  sub := s
  base := Sm.refl _
  tabs := tb
  mode := m
  slot := fun i sv e => by
    rw [startE_get] at e
    rw [start_get, ← q.length]
    by_cases h : i < ds.length
    · rw [if_pos h] at e ⊢
      cases hd : ds[i]? with
      | none => rw [hd] at e; cases e
      | some d =>
        rw [hd] at e
        cases e
        obtain ⟨v, hv, rv⟩ := q.get hd
        exact ⟨v, by rw [hv]; rfl, rv⟩
    · rw [if_neg h] at e
      split at e
      · cases e; trivial
      · cases e
  inj := fun i j di dj a _ e => by
    rw [startE_get] at e
    split at e
    · cases hd : ds[i]? with
      | none => rw [hd] at e; cases e
      | some d => rw [hd] at e; cases e
    · split at e <;> cases e
  len := by
    unfold startE L2.start
    rw [List.length_append, List.length_append, List.length_map, List.length_map, List.length_replicate, List.length_replicate, q.length]
/-- the lists left out -/
def lo (H : Hp) : Hp := fun a => match H a with
  | some (.lst _) => none
  | o => o
theorem lo_sub {H : Hp} : Sm (lo H) H := .of fun a o e => by
  unfold lo at e
  split at e
  · cases e
  · exact e
theorem lo_nl {H : Hp} : ∀ b o, H b = some o → (∀ ys, o ≠ .lst ys) → lo H b = some o := fun b o e t => by
  unfold lo
  rw [e]
  cases o <;> first | rfl | exact absurd rfl (t _)
section
variable [Md]
variable {P : Program} {w : World} {K : PySem.W.Frag} {mg : Str → Option Value} {base : Heap}
theorem runF_len {m : Bool} {n np : Nat} {b : Es} {ds : List D} (h : ds.length ≠ np) : runF m n np b ds = .bad := by unfold runF; rw [if_neg h]
theorem runF_t {n np : Nat} {b : Es} {ds : List D} (h : ds.length = np) : runF true n np b ds = endF true (b (startE n ds)) := by unfold runF; rw [if_pos h]; rfl
theorem runF_f {n np : Nat} {b : Es} {ds : List D} (h : ds.length = np) (hn : noLs ds = true) : runF false n np b ds = endF false (b (startE n ds)) := by unfold runF; rw [if_pos h, hn]; rfl
theorem runF_n {n np : Nat} {b : Es} {ds : List D} (hn : noLs ds = false) : runF false n np b ds = .bad := by unfold runF; rw [hn]; split <;> rfl
theorem okX' {x qual : Str} {st : Stmt} {f : Addr} {fd : FuncData} {N ps : List Str} {k : Nat} {sp : Sp} (F : Fun K x qual st f fd) (S : FnScope N ps (defScope st)) (len : ∀ vs H Q E, sp vs H Q E → vs.length = ps.length)
    (hbody : ∀ (cdv : Value), fd.code = cdv → ∀ (A : Around) (outer : List PySem.Env) (s : Shared) (H : Hp) (vs : List V) (Q : VK) (E : XK), Room k (A.deeper (envOfC qual (defScope st) s.heap.objs.size f cdv)) → sp vs H Q E →
      ∃ t, PSs (cxOf (CXm P w) P w K mg base N qual (defScope st) f cdv A outer s H E) (defBody st) t ∧ t { nx := fun _ H' => Q .non H', rt := Q } (L2.start N vs) H) : FnOk P w K mg base (CXm P w) (k + 1) f fd ps sp := by
  obtain ⟨oc, od, kV, doc, pm, an, cdv, ct, osl, rfl, lk, hcd⟩ := F.ex
  exact fn_of lk hcd S len fun A outer s H vs Q E hr hsp => hbody cdv rfl A outer s H vs Q E hr hsp
/-- a def by its body; m = true: lists may be handed in -/
theorem fn_okC {x qual : Str} {st : Stmt} {f : Addr} {fd : FuncData} {N ps : List Str} {k : Nat} {b : Es} (F : Fun K x qual st f fd) (S : FnScope N ps (defScope st))
    (hbody : ∀ (cdv : Value), fd.code = cdv → ∀ (A : Around) (outer : List PySem.Env) (s : Shared) (H : Hp) (E : XK), Room k (A.deeper (envOfC qual (defScope st) s.heap.objs.size f cdv)) → GSs (cxOf (CXm P w) P w K mg base N qual (defScope st) f cdv A outer s H E) (defBody st) b) :
    FnOk P w K mg base (CXm P w) (k + 1) f fd ps (spF K mg (runF true N.length ps.length b)) := by
  refine okX' F S (fun vs H Q E h => ?_) (fun cdv hc A outer s H vs Q E hr h => ?_)
  · obtain ⟨tb, ds, q, h⟩ := h
    rw [← q.length]
    by_cases e : ds.length = ps.length
    · exact e
    · rw [runF_len e] at h; exact h.elim
  · obtain ⟨tb, ds, q, h⟩ := h
    refine ⟨_, hbody cdv hc A outer s H E hr (fun cls d _ H => E cls d H) (tk_of rfl rfl rfl rfl), ⟨H, true⟩, startE N.length ds, H, rel_start (F := ⟨H, true⟩) tb (Sm.refl _) (fun z => nomatch z) q, ?_⟩
    by_cases hl : ds.length = ps.length
    · rw [runF_t hl] at h
      revert h
      cases b (startE N.length ds) with
      | nx r => exact fun h σ' Hi' H' R _ => h .non H' R.gr .non
      | bk r => exact fun h => h.elim
      | rt d =>
        intro h
        have h : (match (if true && !noL d then Ro.bad else Ro.rt d) with | .rt d => ∀ v H', Gr H H' → Rp K (vw H H') d v → Q v H' | .rn es => ∀ a xs H', Gr H H' → H a = none → H' a = some (.lst xs) → Rps K (rm a (vw H H')) es xs → Q (.ref a) H' | .ex c => ∀ H' u, Gr H H' → mg (Str.ofString c) = some u → E u none H' | .bad => False) := h
        cases hd : noL d with
        | true => rw [hd] at h; exact ⟨by show (true && !noL d) = false; rw [hd] <;> rfl, h⟩
        | false => rw [hd] at h; exact h.elim
      | rn es =>
        intro h
        have h : (match (if true && !noLs es then Ro.bad else Ro.rn es) with | .rt d => ∀ v H', Gr H H' → Rp K (vw H H') d v → Q v H' | .rn es => ∀ a xs H', Gr H H' → H a = none → H' a = some (.lst xs) → Rps K (rm a (vw H H')) es xs → Q (.ref a) H' | .ex c => ∀ H' u, Gr H H' → mg (Str.ofString c) = some u → E u none H' | .bad => False) := h
        cases hd : noLs es with
        | true => rw [hd] at h; exact ⟨by show (true && !noLs es) = false; rw [hd] <;> rfl, h⟩
        | false => rw [hd] at h; exact h.elim
      | ex c r => exact fun h σ' Hi' H' u R _ hu => h H' u R.gr hu
      | bad => exact fun h => h.elim
    · rw [runF_len hl] at h; exact h.elim
theorem fn_ok {x qual : Str} {st : Stmt} {f : Addr} {fd : FuncData} {N ps : List Str} {k : Nat} {b : Es} (F : Fun K x qual st f fd) (S : FnScope N ps (defScope st))
    (hbody : ∀ (cdv : Value) (A : Around) (outer : List PySem.Env) (s : Shared) (H : Hp) (E : XK), Room k (A.deeper (envOfC qual (defScope st) s.heap.objs.size f cdv)) → GSs (cxOf (CXm P w) P w K mg base N qual (defScope st) f cdv A outer s H E) (defBody st) b) :
    FnOk P w K mg base (CXm P w) (k + 1) f fd ps (spF K mg (runF true N.length ps.length b)) :=
  fn_okC F S fun cdv _ => hbody cdv
/-- .. that is handed no list -/
theorem fn_ok0 {x qual : Str} {st : Stmt} {f : Addr} {fd : FuncData} {N ps : List Str} {k : Nat} {b : Es} (F : Fun K x qual st f fd) (S : FnScope N ps (defScope st))
    (hbody : ∀ (cdv : Value) (A : Around) (outer : List PySem.Env) (s : Shared) (H : Hp) (E : XK), Room k (A.deeper (envOfC qual (defScope st) s.heap.objs.size f cdv)) → GSs (cxOf (CXm P w) P w K mg base N qual (defScope st) f cdv A outer s H E) (defBody st) b) :
    FnOk P w K mg base (CXm P w) (k + 1) f fd ps (spF K mg (runF false N.length ps.length b)) := by
  refine okX' F S (fun vs H Q E h => ?_) (fun cdv _ A outer s H vs Q E hr h => ?_)
  · obtain ⟨tb, ds, q, h⟩ := h
    rw [← q.length]
    by_cases e : ds.length = ps.length
    · exact e
    · rw [runF_len e] at h; exact h.elim
  · obtain ⟨tb, ds, q, h⟩ := h
    by_cases hl : ds.length = ps.length
    · cases hn : noLs ds with
      | false => rw [runF_n hn] at h; exact h.elim
      | true =>
        rw [runF_f hl hn] at h
        refine ⟨_, hbody cdv A outer s H E hr (fun cls d _ H => E cls d H) (tk_of rfl rfl rfl rfl), ⟨H, false⟩, startE N.length ds, lo H, rel_start (F := ⟨H, false⟩) tb lo_sub (fun _ a xs e => by show lo H a = none; unfold lo; rw [show H a = some (.lst xs) from e]) (noLs_to hn q fun b o e t _ => lo_nl b o e t), ?_⟩
        have h : (match endF false (b (startE N.length ds)) with | .rt d => ∀ v H', Gr H H' → Rp K (vw H H') d v → Q v H' | .rn es => ∀ a xs H', Gr H H' → H a = none → H' a = some (.lst xs) → Rps K (rm a (vw H H')) es xs → Q (.ref a) H' | .ex c => ∀ H' u, Gr H H' → mg (Str.ofString c) = some u → E u none H' | .bad => False) := h
        revert h
        cases b (startE N.length ds) with
        | nx r => exact fun h σ' Hi' H' R _ => h .non H' R.gr .non
        | bk r => exact fun h => h.elim
        | rt d => exact fun h => ⟨rfl, h⟩
        | rn es => exact fun h => ⟨rfl, h⟩
        | ex c r => exact fun h σ' Hi' H' u R _ hu => h H' u R.gr hu
        | bad => exact fun h => h.elim
    · rw [runF_len hl] at h; exact h.elim
end
end GM

/-! GMh: set(list), sorted(set(..)). -/
namespace GMS
open PySem PySem.Spec PyProof.Rows L2
abbrev noSet (w : World) : Obj := { cls := .type "set", dict := none, data := .set #[] 0 (.fresh 0 0 (!w.params.followText "set-order")) }
abbrev upS (w : World) (s : Shared) : Shared := { s with heap := s.heap.push (noSet w) }
section
variable {P : Program} {w : World} {A : Around} {E : Value → Shared → Prop} {s : Shared} {l : Addr} {xs : Array Value} {zs : List Int}
/-- what __init__ leaves: all that stood, and the set -/
def InitL (w : World) (s : Shared) (zs : List Int) (r : Value) (t : Shared) : Prop := r = .none ∧ ∃ h2 tk c, t = { s with heap := h2, toks := tk } ∧ SetR w h2 s.heap.objs.size (fun j => decide (j ∈ zs)) c ∧ c ≤ zs.length ∧ ∀ b o, s.heap.get? b = some o → h2.get? b = some o
theorem noSet_at : (upS w s).heap.get? s.heap.objs.size = some (noSet w) := Heap.get?_push_size _ rfl
theorem noSet_ty : (upS w s).TypeIs (.ref s.heap.objs.size) "set" := ⟨noSet w, noSet_at, rfl⟩
/-- the items are taken in -/
theorem taken_in (hh : A.handled = none) (hl : s.heap.IsList l xs) (hz : IntsAre xs.toList zs) (hb : zs.length + 1 < scanBound) {R : Result → Shared → Prop} (hR : ∀ t, InitL w s zs .none t → R (.ok (.ret .none)) t) :
    codeAny (model P w) A (.builtin "set.update.loop" ⟨[.ref s.heap.objs.size, .ref (upS w s).heap.objs.size], []⟩) R
      { upS w s with heap := (upS w s).heap.push { cls := .type "list_iterator", data := .fields #[.ref l, .int 0 0] } } := by
  have nz : xs.size = zs.length := by have q := IntsAre.length hz; rwa [Array.length_toList] at q
  have below : l < s.heap.objs.size := by obtain ⟨o, ho, _⟩ := hl; exact Heap.lt_size ho
  have szu : (upS w s).heap.objs.size = s.heap.objs.size + 1 := Heap.size_push ..
  have apart : l ≠ (upS w s).heap.objs.size := by rw [szu]; exact Nat.ne_of_lt (Nat.lt_succ_of_lt below)
  have away : s.heap.objs.size ∉ [(upS w s).heap.objs.size, l] := by
    rw [szu]
    intro m
    rcases List.mem_cons.mp m with e | m
    · exact absurd e (Nat.ne_of_lt (Nat.lt_succ_self _))
    · rcases List.mem_cons.mp m with e | m
      · exact absurd e (Nat.ne_of_gt below)
      · cases m
  have each : ∀ (i : Nat) (v : Value), xs[i]? = some v → ∃ k t, zs[i]? = some k ∧ v = .int k t := fun i v hv => by
    have lt : i < zs.length := by rw [← nz]; exact (Array.getElem?_eq_some_iff.mp hv).1
    obtain ⟨t, e⟩ := IntsAre.int_at hz i v (by rw [Array.getElem?_toList]; exact hv)
    exact ⟨zs[i], t, List.getElem?_eq_getElem lt, by rw [e, List.getD_eq_getElem?_getD, List.getElem?_eq_getElem lt]; rfl⟩
  have lu : (upS w s).heap.IsList l xs := hl.push _
  have hh1 : A.in1.handled = none := by simpa using hh
  refine set_update_ints (A := A) ((Walks.list hh1 (upS w s).heap.objs.size l apart xs).toS) s.heap.objs.size away zs nz hb each (xs.size - 0) 0 _ (by omega) (Nat.zero_le _) ⟨⟨_, Heap.get?_push_size _ rfl, rfl, rfl⟩, lu.push _⟩
    ⟨0, Nat.le_refl 0, setR_new_at (Heap.get?_push_of_some _ noSet_at)⟩ fun t c mv hc hS => hR t ⟨rfl, ?_⟩
  obtain ⟨h2, g2, d2, tk, os2⟩ := t
  have e1 : g2 = s.gens := mv.gens
  have e2 : d2 = s.drawn := mv.drawn
  have e3 : os2 = s.os := mv.os
  subst e1 e2 e3
  refine ⟨h2, tk, c, rfl, hS, by rw [nz] at hc; exact hc, fun b o e => ?_⟩
  have lb := Heap.lt_size e
  refine mv.heap b o (fun m => ?_) (Heap.get?_push_of_some _ (Heap.get?_push_of_some _ e))
  rcases List.mem_cons.mp m with z | m
  · exact absurd z (Nat.ne_of_lt lb)
  · rcases List.mem_cons.mp m with z | m
    · rw [szu] at z; exact absurd z (Nat.ne_of_lt (Nat.lt_succ_of_lt lb))
    · cases m
theorem init_list (hh : A.handled = none) (hl : s.heap.IsList l xs) (hz : IntsAre xs.toList zs) (hb : zs.length + 1 < scanBound) {Qf : PySem.Fin → Shared → Prop} (k : ∀ t, InitL w s zs .none t → Qf (.done (.ret .none)) t) :
    wpAny (model P w) A (Builtin.«set.__init__» ⟨[.ref s.heap.objs.size, .ref l], []⟩) Qf E (upS w s) := by
  obtain ⟨o, ho, hc, n, hd⟩ := id hl
  obtain ⟨oc, od, odt, osl⟩ := o
  simp only at hc hd
  subst hc hd
  have there := Heap.get?_push_of_some (noSet w) ho
  have f1 := PySem.F.sub_list_set
  have f2 := PySem.F.sub_list_frozenset
  have f3 : (Value.type "list" == Value.type "dict") = false := by decide
  have lu : (upS w s).heap.IsList l xs := ⟨_, there, rfl, n, rfl⟩
  unfold Builtin.«set.__init__» noKeywords Builtin.Frozenset.updateFrom
  generalize hPI : pyIter = PI
  wp_walk
  subst hPI
  refine wpAny_pyIter_list lu ?_
  refine wpAny_bind (wpAny_runValue ?_)
  refine taken_in (by simpa using hh) hl hz hb fun t ht => ?_
  show wpAny _ _ (pure ()) _ _ _
  refine wpAny_pure ?_
  show wpAny _ _ (ret Value.none) _ _ _
  exact wpAny_pure (k t ht)
theorem init_code (hh : A.handled = none) (hl : s.heap.IsList l xs) (hz : IntsAre xs.toList zs) (hb : zs.length + 1 < scanBound) :
    codeAny (model P w) A (.call (.builtin "set.__init__") ⟨[.ref s.heap.objs.size, .ref l], []⟩) (wants (InitL w s zs) E) (upS w s) := by
  refine codeAny_call_builtin PySem.F.called_set.init.plain PySem.F.entry_set_init (check_set_init_1 noSet_ty ?_)
  exact init_list (by simpa using hh) hl hz hb fun t ht => ht
/-- set(xs), xs a list of ints -/
theorem set_list_R {Q : Value → Shared → Prop} (hh : A.handled = none) (hl : s.heap.IsList l xs) (hz : IntsAre xs.toList zs) (hb : zs.length + 1 < scanBound) (k : ∀ t, InitL w s zs .none t → Q (.ref s.heap.objs.size) t) :
    wpAny (model P w) A (call (.type "set") [.ref l]) Q E s := by
  have T := PySem.F.called_set
  obtain ⟨mc, mt, mr⟩ := T.mro
  have a1 := T.made
  have a2 := T.sub
  have a3 := T.notType
  have a4 := T.canCreate
  have a5 := PySem.F.typeCall_set_1 (.ref l)
  refine wpAny_call (codeAny_of_tree ?_)
  refine (show wpAny _ _ (callAny (.type "set") _) _ _ _ from ?_)
  refine wpAny_pure ⟨Code.quiet_builtin _ (by decide +kernel), codeAny_builtin PySem.F.entry_type_call ?_⟩
  rw [Around.under_plain (weight_type_call_type "set" [.ref l] []) rfl]
  repeat (any_goals (first | assumption | wp_step))
  refine codeAny_mono (code_set_led1 (.ref l) (E := E) (Q₁ := fun v t => v = .ref s.heap.objs.size ∧ t = upS w s) ⟨rfl, rfl⟩) fun r t hr => ?_
  match r, hr with
  | .error _, hr => exact hr
  | .ok (.ret _), ⟨e1, e2⟩ =>
    subst e1 e2
    have b1 := T.init.lookup
    have b2 := T.init.bind (.ref s.heap.objs.size)
    have b3 := noSet_ty (w := w) (s := s)
    repeat (any_goals (first | assumption | wp_step))
    refine codeAny_mono (init_code (P := P) (A := A.in1) (E := E) (by simpa using hh) hl hz hb) fun r t hq => ?_
    match r, hq with
    | .error _, hq => exact hq
    | .ok (.ret r), hq =>
      have er : r = Value.none := hq.1
      subst er
      refine wpAny_pure ?_
      show wpAny _ _ (ret (Value.ref s.heap.objs.size)) _ _ _
      exact wpAny_pure (k t hq)
end
end GMS
namespace GMS
open PySem PySem.Spec PyProof.Rows L2
section
variable {P : Program} {w : World} {A : Around} {E : Value → Shared → Prop} {s : Shared}
/-- sorted(a set of ints), any number of them below the scan's bound -/
theorem sortedSetAny {a : Addr} {S : Int → Bool} {n : Nat} {Q : Value → Shared → Prop} (R : SetR w s.heap a S n) (hh : A.handled = none) (hbig : n < 4090)
    (fin : ∀ s2 p out c (ns : List Int), (∀ b u, s.heap.get? b = some u → s2.heap.get? b = some u) → s2.gens = s.gens → s2.os = s.os → s.heap.objs.size ≤ p →
      s2.heap.get? p = some (seqObj "list" out c) → IntsAre out.toList ns → (ns.Pairwise (· < ·) ∧ ∀ k, k ∈ ns ↔ S k = true) → ns.length = n → Q (.ref p) s2) :
    wpAny (model P w) A (call (.builtin "sorted") [.ref a]) Q E s := by
  obtain ⟨so, es, ep, tb, hso, hex, hdt, hkey, hnd, hmem, hsc, hfit, hcnt, hris, hled⟩ := R
  refine Calls.call_function_entry kind_sorted plain_sorted entry_sorted (args_sorted1 _) ?_
  unfold Builtin.«sorted»
  refine wpAny_bind (m := checkCount "sorted" 1 1 _) (wpAny_pure ?_)
  refine wpAny_bind (collect_set (A := A.in1) hh ⟨so, hso, hex.1, hdt⟩ hfit hsc hris hled fun t vs stay grew hgens hos hperm => ?_)
  have len1 : vs.length = n := hperm.length_eq.trans (by rw [List.length_map, Array.length_toList]; exact hcnt)
  have allInt : ∀ v ∈ vs, ∃ k tk, v = Value.int k tk := fun v hv => by
    obtain ⟨x, hx, ex⟩ := List.mem_map.mp (hperm.mem_iff.mp hv)
    obtain ⟨k, tk, hk, _⟩ := hkey x hx
    exact ⟨k, tk, ex ▸ hk⟩
  have areInts := ints_of vs allInt
  have keys : (vs.map Builtin.Re.reRawOf).Perm (es.toList.map keyOf) := by
    have z := hperm.map Builtin.Re.reRawOf
    rwa [List.map_map] at z
  have fits : vs.length ≤ sizeLine := by rw [len1, sizeLine_eq]; omega
  refine wpAny_bind (wpAny_newList ?_ fits)
  have there : (t.heap.push (seqObj "list" vs.toArray 0)).get? t.heap.objs.size = some (seqObj "list" vs.toArray 0) := Heap.get?_push_size _ rfl
  refine wpAny_bind (wpAny_holding (wpAny_call_entry slot_list_sort ⟨_, there, rfl⟩ entry_list_sort
    (SrtO.list_sort_ord SrtO.swo_int there fits (fun h2 => SrtO.ints_sortable areInts h2) fun out o1 o2 => ⟨.none, rfl, ?_⟩) (args_list_sort _)))
  obtain ⟨z1, z2, z3⟩ := SrtO.ints_out areInts o1 o2
  obtain ⟨c, hc⟩ := sortedHeap_at (vs := vs) (out := out.toArray) there
  have pk := z2.trans keys
  refine wpAny_pure ⟨_, rfl, fin _ t.heap.objs.size out.toArray c (out.map SrtO.iv) (fun b u e => ?_) hgens hos grew hc (by simpa using z1) ⟨lt_of_le_nodup _ z3 (pk.nodup_iff.mpr hnd), fun k => by rw [pk.mem_iff, ← hmem k]⟩ ?_⟩
  · have q := stay b u e
    have below := Heap.lt_size q
    show (sortedHeap (t.heap.push (seqObj "list" vs.toArray 0)) t.heap.objs.size vs out.toArray).get? b = some u
    rw [sortedHeap_old (Nat.ne_of_lt below) (by rw [size_push']; exact Nat.lt_succ_of_lt below)]
    exact Heap.get?_push_of_some _ q
  · exact pk.length_eq.trans (by rw [List.length_map, Array.length_toList]; exact hcnt)
end
section
variable {X : Cx}
def rSortS (w : World) : List V → Hp → VK → Prop := fun vs H Q => ∃ (a : Addr) (S : Int → Bool) (n : Nat), vs = [V.ref a] ∧ H a = some (SetO w a S n) ∧ n < 4090 ∧
  ∀ (ns : List Int) (p : Addr), (ns.Pairwise (· < ·) ∧ ∀ k, k ∈ ns ↔ S k = true) → ns.length = n → H p = none → Q (.ref p) (upd H p (.lst (ns.map V.int)))
theorem cr_sortS (hc : X.calm = true) : CallR X (.builtin "sorted") (rSortS X.w) := by
  intro pins s σ H vs us Q I rv hyp
  obtain ⟨a, S, n, rfl, at_a, few, q⟩ := hyp
  rw [Vals.ref1 rv]
  refine sortedSetAny (setO_get I at_a) (I.ok.hd hc) few fun s2 p out c ns stay hg ho hp hat hints hmem hl => ?_
  have len2 : (ns.map V.int).length ≤ sizeLine := by rw [List.length_map, hl, sizeLine_eq]; omega
  have free : H p = none := I.hok.fresh hp
  have e : s2 = { s with heap := s2.heap, gens := s2.gens, drawn := s2.drawn, toks := s2.toks } := by
    obtain ⟨h2, g2, d2, t2, os2⟩ := s2
    obtain ⟨h1, g1, d1, t1, os1⟩ := s
    cases ho
    rfl
  have now : Inv X pins σ (upd H p (.lst (ns.map V.int))) { s with heap := s2.heap, gens := s2.gens, drawn := s2.drawn, toks := s2.toks } := by
    refine I.call (ch := []) (Un.laid stay hp free) (I.hok.laid stay hp ⟨len2, out.toList, c, vals_of_ints hints, hat⟩) ?_ (fun _ z => nomatch z)
    rw [hg]
    exact I.bare
  rw [e]
  exact ⟨.ref p, _, now, rfl, q ns p hmem hl free⟩
end
end GMS

/-! GMi: sorted(set(..)), max, min, sum, in, slices, concatenations, ranges as lists. -/
namespace GM
open PySem PySem.Spec PyProof.Rows L2
variable [Tb]
section
variable {X : Cx} {p q : Bool} {e a b c tg iter elt : Expr} {es : List Expr} {f g h : Ee} {n m src : En} {pos : Pos} {K : PySem.W.Frag} {F : Fm} {r : Env} {σ : L2.St} {Hi H Hi' H' : Hp}
/-! ### sorted(set(..)) -/
def rSetI (K : PySem.W.Frag) (w : World) : List V → Hp → VK → Prop := fun vs H Q => ∃ (a : Addr) (ns : List Int), vs = [.ref a] ∧ (H a = some (.lst (ns.map V.int)) ∨ H a = some (.tup (ns.map V.int))) ∧ ns.length < 4000 ∧
  ∀ p c, H p = none → c ≤ ns.length → Q (.ref p) (upd H p (SetO w p (fun j => decide (j ∈ ns)) c))
theorem cr_setI (hc : X.calm = true) : CallR X (.type "set") (rSetI X.K X.w) := by
  intro pins s σ H vs us Q I rv h
  obtain ⟨a, ns, rfl, ha, hl, q⟩ := h
  rw [Vals.ref1 rv]
  have hb : ns.length + 1 < scanBound := by unfold scanBound; omega
  have fin : ∀ (h2 : Heap) (tk c : Nat), SetR X.w h2 s.heap.objs.size (fun j => decide (j ∈ ns)) c → c ≤ ns.length → (∀ b o, s.heap.get? b = some o → h2.get? b = some o) → EP X pins σ Q (.ref s.heap.objs.size) { s with heap := h2, toks := tk } := fun h2 tk c R hcn k =>
    ⟨.ref s.heap.objs.size, _, I.laid (t' := tk) (a := s.heap.objs.size) (o := SetO X.w s.heap.objs.size (fun j => decide (j ∈ ns)) c) k (Nat.le_refl _) (setO_new R), rfl, q _ c (I.hok.fresh (Nat.le_refl _)) hcn⟩
  rcases ha with ha | ha
  · obtain ⟨its, r, pl, hz⟩ := I.list (SqL.of ha)
    refine GMS.set_list_R (I.ok.hd hc) pl.isList (zs := ns) (by simpa using r.ints) hb fun t ht => ?_
    obtain ⟨_, h2, tk, c, rfl, R, hcn, k⟩ := ht
    exact fin h2 tk c R hcn k
  · obtain ⟨its, r, pl, hz⟩ := I.tuple (SqT.of ha)
    exact call_set_tupI ns (I.ok.hd hc) (show s.heap.IsTuple a its.toArray from pl) (by simpa using r.ints) hb fun h2 tk c R hcn k => fin h2 tk c R hcn k
theorem dedI_mem {k : Int} : ∀ {l : List Int}, k ∈ dedI l ↔ k ∈ l
  | [] => by simp [dedI]
  | a :: r => by
    unfold dedI
    split
    · rename_i h
      rw [dedI_mem, List.mem_cons]
      exact ⟨.inr, fun z => z.elim (fun e => e ▸ h) id⟩
    · rw [List.mem_cons, List.mem_cons, dedI_mem]
theorem dedI_nodup : ∀ (l : List Int), (dedI l).Nodup
  | [] => .nil
  | a :: r => by
    unfold dedI
    split
    · exact dedI_nodup r
    · rename_i h
      exact List.nodup_cons.mpr ⟨fun z => h (dedI_mem.mp z), dedI_nodup r⟩
theorem setI_mem {k : Int} {l : List Int} : k ∈ setI l ↔ k ∈ l := ((sortI_perm _).mem_iff).trans dedI_mem
theorem setI_sorted (l : List Int) : (setI l).Pairwise (· < ·) := by
  have h1 := sortI_sorted (dedI l)
  have h2 : (setI l).Nodup := (sortI_perm _).nodup_iff.mpr (dedI_nodup l)
  exact (h1.and h2).imp fun {a b} h => by have h1 := h.1; have h2 := h.2; omega
theorem lt_sorted_unique : ∀ {l m : List Int}, l.Pairwise (· < ·) → m.Pairwise (· < ·) → (∀ k, k ∈ l ↔ k ∈ m) → l = m
  | [], [], _, _, _ => rfl
  | [], b :: s, _, _, h => absurd ((h b).mpr List.mem_cons_self) (by simp)
  | a :: r, [], _, _, h => absurd ((h a).mp List.mem_cons_self) (by simp)
  | a :: r, b :: s, h1, h2, h => by
    obtain ⟨x1, x2⟩ := List.pairwise_cons.mp h1
    obtain ⟨y1, y2⟩ := List.pairwise_cons.mp h2
    have e : a = b := by
      have m1 := (h a).mp List.mem_cons_self
      have m2 := (h b).mpr List.mem_cons_self
      rcases List.mem_cons.mp m1 with e | m1
      · exact e
      · rcases List.mem_cons.mp m2 with e | m2
        · exact e.symm
        · have := x1 b m2; have := y1 a m1; omega
    subst e
    rw [lt_sorted_unique x2 y2 fun k => ?_]
    constructor
    · intro hk
      rcases List.mem_cons.mp ((h k).mp (List.mem_cons_of_mem _ hk)) with e | z
      · have := x1 k hk; omega
      · exact z
    · intro hk
      rcases List.mem_cons.mp ((h k).mpr (List.mem_cons_of_mem _ hk)) with e | z
      · have := y1 k hk; omega
      · exact z
theorem setI_is {l ns : List Int} (s : l.Pairwise (· < ·)) (h : ∀ k, k ∈ l ↔ k ∈ ns) : l = setI ns := lt_sorted_unique s (setI_sorted ns) fun k => (h k).trans setI_mem.symm
theorem ne_setSort : NoExN bSetSort := fun x c e => ne_withInts (fun ns => by split <;> simp) e
theorem gn_setSort {px p2 q2 : Pos} (hc : X.calm = true) (hg : Gl X "sorted") (hm : X.mg "sorted" = none) (hg2 : Gl X "set") (hm2 : X.mg "set" = none) (ha : GE X false a f)
    (he : starEach [a] X.env = (false, eval a X.env) :: starEach [] X.env := by rfl) (hpl : (backTo q2 (starEach [] X.env)).any (·.1) = false := by rfl)
    (he2 : starEach [.Call (.Name "set" p2) [a] [] q2] X.env = (false, eval (.Call (.Name "set" p2) [a] [] q2) X.env) :: starEach [] X.env := by rfl) (hpl2 : (backTo pos (starEach [] X.env)).any (·.1) = false := by rfl) :
    GN X (.Call (.Name "sorted" px) [.Call (.Name "set" p2) [a] [] q2] [] pos) (nOp1 bSetSort f) := fun W tk =>
  pe_imp (pe_callB (GMS.cr_sortS hc) hg hm (by decide +kernel) (pa_cons (pe_callTy (cr_setI hc) hg2 hm2 (by decide +kernel) (pa_cons (ha W tk) pa_nil he) (by decide) (by decide) he hpl) pa_nil he2) (by decide) (by decide) he2 hpl2) fun σ H Q ⟨F, ρ, Hi, R, h⟩ => by
    refine ⟨F, ρ, Hi, R, (Po.bind h).imp fun x Hi1 H1 _ e1 k v rv => ?_⟩
    have k := k e1
    cases e : bSetSort x with
    | ex c => exact absurd e (ne_setSort x c)
    | bad => rw [e] at k; exact k.elim
    | ok zs =>
      rw [e] at k
      obtain ⟨a, ns, rfl, hn, e2⟩ := withInts_list e e1.sub rv
      split at e2
      · rename_i hl
        cases e2
        refine ⟨a, ns, rfl, hn, hl, fun t c ht hcn => ⟨t, _, c, rfl, upd_same, by omega, fun ns' p ⟨st, hmem⟩ hlen hp => ?_⟩⟩
        have es : ns' = setI ns := setI_is st fun k => (hmem k).trans (by simp)
        have s1 : Ext Hi1 H1 Hi1 (upd H1 t (SetO X.w t (fun j => decide (j ∈ ns)) c)) := Ext.lst e1.sub ht
        subst es
        exact k Hi1 _ (s1.trans (Ext.lst s1.sub hp)) p _ (Sm.free (e1.h.trans s1.h) hp) upd_same (none_hi s1.sub hp) (Rps.ofInts _)
      · cases e2

/-! ### max, min, sum of a list -/
theorem maxI_mem : ∀ {l : List Int}, l ≠ [] → maxI l ∈ l ∧ ∀ y ∈ l, y ≤ maxI l
  | [], h => absurd rfl h
  | [a], _ => ⟨by simp [maxI], by simp [maxI]⟩
  | a :: b :: r, _ => by
    obtain ⟨h1, h2⟩ := maxI_mem (l := b :: r) (by simp)
    have e : maxI (a :: b :: r) = if a ≥ maxI (b :: r) then a else maxI (b :: r) := rfl
    rw [e]
    split
    · rename_i h
      refine ⟨List.mem_cons_self, fun y hy => ?_⟩
      rcases List.mem_cons.mp hy with rfl | hy
      · exact Int.le_refl _
      · exact Int.le_trans (h2 y hy) h
    · rename_i h
      refine ⟨List.mem_cons_of_mem _ h1, fun y hy => ?_⟩
      rcases List.mem_cons.mp hy with rfl | hy
      · omega
      · exact h2 y hy
theorem minI_mem : ∀ {l : List Int}, l ≠ [] → minI l ∈ l ∧ ∀ y ∈ l, minI l ≤ y
  | [], h => absurd rfl h
  | [a], _ => ⟨by simp [minI], by simp [minI]⟩
  | a :: b :: r, _ => by
    obtain ⟨h1, h2⟩ := minI_mem (l := b :: r) (by simp)
    have e : minI (a :: b :: r) = if a ≤ minI (b :: r) then a else minI (b :: r) := rfl
    rw [e]
    split
    · rename_i h
      refine ⟨List.mem_cons_self, fun y hy => ?_⟩
      rcases List.mem_cons.mp hy with rfl | hy
      · exact Int.le_refl _
      · exact Int.le_trans h (h2 y hy)
    · rename_i h
      refine ⟨List.mem_cons_of_mem _ h1, fun y hy => ?_⟩
      rcases List.mem_cons.mp hy with rfl | hy
      · omega
      · exact h2 y hy
theorem ne_bMax : NoEx1 bMax := fun x c e => ne_withInts (fun ns => by split <;> simp) e
theorem ne_max : NoEx1 (lstO bMax) := fun x c e => by
  cases x with
  | lst ds => exact ne_bMax _ c e
  | _ => cases e
theorem ne_bMin : NoEx1 bMin := fun x c e => ne_withInts (fun ns => by split <;> simp) e
theorem ne_min : NoEx1 (lstO bMin) := fun x c e => by
  cases x with
  | lst ds => exact ne_bMin _ c e
  | _ => cases e
theorem ne_bSum : NoEx1 bSum := fun x c e => ne_withInts (fun ns => by simp) e
theorem ne_sum : NoEx1 (lstO bSum) := fun x c e => by
  cases x with
  | lst ds => exact ne_bSum _ c e
  | _ => cases e
theorem lst_ints {ds : List D} {v : V} {α : Type} {fi : List Int → Rs α} {z : α} (e : withInts (.lst ds) fi = .ok z) (s : Sm Hi H) (rv : RvP K false Hi H (.lst ds) v) : ∃ a ns, v = .ref a ∧ H a = some (.lst (ns.map V.int)) ∧ fi ns = .ok z := by
  obtain ⟨a, xs, rfl, ha, q⟩ := rv.lst s
  unfold withInts at e
  simp only at e
  split at e
  · rename_i ns hs
    exact ⟨a, ns, rfl, by rw [← asInts_rps hs q]; exact ha, e⟩
  · cases e
theorem o_max : Op1 K false (fun v H Q => rMax K [v] H Q) (lstO bMax) := fun x z v Hi H Q e s rv w => by
  cases x with
  | lst ds =>
    obtain ⟨a, ns, rfl, ha, e2⟩ := lst_ints (show withInts (.lst ds) _ = _ from e) s rv
    split at e2
    · cases e2
    · rename_i hne
      cases e2
      have hne : ns ≠ [] := fun z => by subst z; simp at hne
      obtain ⟨h1, h2⟩ := maxI_mem hne
      refine ⟨a, ns, rfl, SqL.of ha, by cases ns <;> simp_all, fun m hm hy => ?_⟩
      have em : m = maxI ns := Int.le_antisymm (h2 m hm) (hy _ h1)
      rw [em]
      exact w _ Hi H (Ext.refl s) (.int _)
  | _ => cases e
theorem o_min : Op1 K false (fun v H Q => rMin K [v] H Q) (lstO bMin) := fun x z v Hi H Q e s rv w => by
  cases x with
  | lst ds =>
    obtain ⟨a, ns, rfl, ha, e2⟩ := lst_ints (show withInts (.lst ds) _ = _ from e) s rv
    split at e2
    · cases e2
    · rename_i hne
      cases e2
      have hne : ns ≠ [] := fun z => by subst z; simp at hne
      obtain ⟨h1, h2⟩ := minI_mem hne
      refine ⟨a, ns, rfl, SqL.of ha, by cases ns <;> simp_all, fun m hm hy => ?_⟩
      have em : m = minI ns := Int.le_antisymm (hy _ h1) (h2 m hm)
      rw [em]
      exact w _ Hi H (Ext.refl s) (.int _)
  | _ => cases e
theorem o_sum : Op1 K false (fun v H Q => rSum K [v] H Q) (lstO bSum) := fun x z v Hi H Q e s rv w => by
  cases x with
  | lst ds =>
    obtain ⟨a, ns, rfl, ha, e2⟩ := lst_ints (show withInts (.lst ds) _ = _ from e) s rv
    cases e2
    exact ⟨a, ns, rfl, SqL.of ha, w _ Hi H (Ext.refl s) (.int _)⟩
  | _ => cases e
theorem ge_max {px : Pos} (hc : X.calm = true) (hg : Gl X "max") (hm : X.mg "max" = none) (ha : GE X false a f) (he : starEach [a] X.env = (false, eval a X.env) :: starEach [] X.env := by rfl) (hpl : (backTo pos (starEach [] X.env)).any (·.1) = false := by rfl) :
    GE X p (.Call (.Name "max" px) [a] [] pos) (op1 (lstO bMax) f) := ge_b1 (cr_max hc) o_max ne_max hg hm (by decide +kernel) ha (by decide) (by decide) he hpl
theorem ge_min {px : Pos} (hc : X.calm = true) (hg : Gl X "min") (hm : X.mg "min" = none) (ha : GE X false a f) (he : starEach [a] X.env = (false, eval a X.env) :: starEach [] X.env := by rfl) (hpl : (backTo pos (starEach [] X.env)).any (·.1) = false := by rfl) :
    GE X p (.Call (.Name "min" px) [a] [] pos) (op1 (lstO bMin) f) := ge_b1 (cr_min hc) o_min ne_min hg hm (by decide +kernel) ha (by decide) (by decide) he hpl
theorem ge_sum {px : Pos} (hc : X.calm = true) (hg : Gl X "sum") (hm : X.mg "sum" = none) (ha : GE X false a f) (he : starEach [a] X.env = (false, eval a X.env) :: starEach [] X.env := by rfl) (hpl : (backTo pos (starEach [] X.env)).any (·.1) = false := by rfl) :
    GE X p (.Call (.Name "sum" px) [a] [] pos) (op1 (lstO bSum) f) := ge_b1 (cr_sum hc) o_sum ne_sum hg hm (by decide +kernel) ha (by decide) (by decide) he hpl

/-! ### in, not in -/
theorem flat_rp {d : D} {v : V} (h : Rp K H d v) (f : flat0 d = true) : flatV v = true := by cases h <;> first | rfl | cases f
theorem flats_rps : ∀ {ds : List D} {vs : List V}, Rps K H ds vs → ds.all flat0 = true → vs.all flatV = true
  | _, _, .nil, _ => rfl
  | _, _, .cons r t, f => by
    rw [List.all_cons, Bool.and_eq_true] at f ⊢
    exact ⟨flat_rp r f.1, flats_rps t f.2⟩
theorem deq_eqV {d e : D} {v u : V} (h : Rp K H d v) (h' : Rp K H e u) (f : flat0 d = true) (f' : flat0 e = true) : eqV v u = deq d e := by
  cases h <;> first | (cases f; done) | (cases h' <;> first | (cases f'; done) | rfl)
theorem inV_inL {x : D} {v : V} (h : Rp K H x v) (f : flat0 x = true) : ∀ {ds : List D} {vs : List V}, Rps K H ds vs → ds.all flat0 = true → inV v vs = inL x ds
  | _, _, .nil, _ => rfl
  | _, _, .cons r t, g => by
    rw [List.all_cons, Bool.and_eq_true] at g
    unfold inV inL
    rw [List.any_cons, List.any_cons, deq_eqV r h g.1 f]
    have := inV_inL h f t g.2
    unfold inV inL at this
    rw [this]
theorem ne_in : NoEx2 gIn := fun x y c e => by
  unfold gIn at e
  split at e
  · split at e <;> cases e
  · cases e
theorem ne_notIn : NoEx2 gNotIn := fun x y c e => by
  unfold gNotIn at e
  split at e
  · split at e <;> cases e
  · cases e
theorem items_seq {y : D} {ds : List D} {u : V} (e : itemsOf y = .ok ds) (s : Sm Hi H) (ru : RvP K false Hi H y u) : ∃ a xs, u = .ref a ∧ (SqL K H a xs ∨ SqT K H a xs) ∧ Rps K Hi ds xs := by
  cases y with
  | lst es =>
    cases e
    obtain ⟨a, xs, rfl, ha, q⟩ := ru.lst s
    exact ⟨a, xs, rfl, .inl (SqL.of ha), q⟩
  | tup es =>
    cases e
    obtain ⟨a, xs, rfl, _, ha, q⟩ := ru.tup s
    exact ⟨a, xs, rfl, .inr (SqT.of ha), q⟩
  | scr ns =>
    cases e
    obtain ⟨a, rfl, ha, _⟩ := ru.scr s
    exact ⟨a, _, rfl, .inl ha, Rps.ofInts ns⟩
  | _ => cases e
theorem flat_rv {x : D} {v : V} (f : flat0 x = true) (h : RvP K p Hi H x v) : Rp K Hi x v := by
  rcases h with h | ⟨_, a, xs, ds, rfl, rfl, _⟩
  · exact h
  · cases f
theorem o_in : Op2 K true false (rIn K false) gIn := fun x y z v u Hi H Q e s rv ru w => by
  unfold gIn at e
  split at e
  · rename_i ds hy
    split at e
    · rename_i hf
      cases e
      obtain ⟨f1, f2⟩ := Bool.and_eq_true_iff.mp hf
      obtain ⟨a, xs, rfl, hs, q⟩ := items_seq hy s ru
      have rx := flat_rv f1 rv
      refine ⟨a, xs, rfl, hs, flat_rp rx f1, flats_rps q f2, ?_⟩
      rw [if_neg Bool.false_ne_true, inV_inL rx f1 q f2]
      exact w _ Hi H (Ext.refl s) (.bl _)
    · cases e
  · cases e
theorem o_notIn : Op2 K true false (rIn K true) gNotIn := fun x y z v u Hi H Q e s rv ru w => by
  unfold gNotIn at e
  split at e
  · rename_i ds hy
    split at e
    · rename_i hf
      cases e
      obtain ⟨f1, f2⟩ := Bool.and_eq_true_iff.mp hf
      obtain ⟨a, xs, rfl, hs, q⟩ := items_seq hy s ru
      have rx := flat_rv f1 rv
      refine ⟨a, xs, rfl, hs, flat_rp rx f1, flats_rps q f2, ?_⟩
      rw [if_pos rfl, inV_inL rx f1 q f2]
      exact w _ Hi H (Ext.refl s) (.bl _)
    · cases e
  · cases e
theorem ge_in (hm : behindInMarks .In b = false) (ha : GE X true a f) (hb : GE X false b g) : GE X p (.Compare a [.In] [b] pos) (op2 gIn f g) := ge_cmp op_in_seq o_in ne_in hm ha hb
theorem ge_notIn (hm : behindInMarks .NotIn b = false) (ha : GE X true a f) (hb : GE X false b g) : GE X p (.Compare a [.NotIn] [b] pos) (op2 gNotIn f g) := ge_cmp op_notIn_seq o_notIn ne_notIn hm ha hb

/-! ### put together -/
theorem gn_cat (ha : GE X false a f) (hb : GE X false b g) : GN X (.BinOp a .Add b pos) (nCat f g) := fun W tk => pe_imp (pe_op op_cat (ha W tk) (hb W tk)) fun σ H Q ⟨F, ρ, Hi, R, h⟩ => by
  refine ⟨F, ρ, Hi, R, (Po.bind h).imp fun x Hi1 H1 _ e1 k v rv => ?_⟩
  refine ⟨F, ρ, Hi1, R.ext e1, (Po.bind (k e1)).imp fun y Hi2 H2 _ e2 k u ru => ?_⟩
  have k := k e2
  unfold gCatL at k
  split at k
  · rename_i xs ys
    split at k
    · rename_i hl
      obtain ⟨a, vs, rfl, ha, q1⟩ := (rv.ext e2).lst e2.sub
      obtain ⟨b, us, rfl, hb, q2⟩ := ru.lst e2.sub
      refine ⟨a, b, vs, us, rfl, rfl, ha, hb, by rw [← q1.length, ← q2.length]; exact le_line hl, fun p hp => ?_⟩
      exact k Hi2 _ (Ext.lst e2.sub hp) p _ (Sm.free (e1.h.trans e2.h) hp) upd_same (none_hi e2.sub hp) (q1.append q2)
    · exact k.elim
  · exact k.elim
theorem ne_catT : NoEx2 gCatT := fun x y c e => by
  unfold gCatT at e
  split at e
  · split at e <;> cases e
  · cases e
theorem o_catT : Op2 K true true (rCatA K) gCatT := fun x y z v u Hi H Q e s rv ru w => by
  unfold gCatT at e
  split at e
  · rename_i xs ys
    split at e
    · rename_i hl
      cases e
      obtain ⟨a, vs, rfl, hai, ha, q1⟩ := rv.tup s
      obtain ⟨b, us, rfl, hbi, hb, q2⟩ := ru.tup s
      refine ⟨a, b, vs, us, rfl, rfl, SqT.of ha, SqT.of hb, by rw [← q1.length, ← q2.length]; exact le_line hl, fun e0 => ?_, fun _ e0 => ?_, fun _ _ p hp => ?_⟩
      · have : xs = [] := List.eq_nil_of_length_eq_zero (by rw [q1.length, e0]; rfl)
        subst this
        exact w _ Hi H (Ext.refl s) (.tup hbi q2)
      · have : ys = [] := List.eq_nil_of_length_eq_zero (by rw [q2.length, e0]; rfl)
        subst this
        rw [List.append_nil] at *
        exact w _ Hi H (Ext.refl s) (.tup hai q1)
      · exact w _ _ _ (Ext.tup s hp) (tup_new s hp (q1.append q2))
    · cases e
  · cases e
theorem ge_catT (ha : GE X true a f) (hb : GE X true b g) : GE X p (.BinOp a .Add b pos) (op2 gCatT f g) := ge_bin op_catA o_catT ne_catT ha hb
theorem o_addS : Op2 K p q (fun x y H Q => ∃ i j, x = .str i ∧ y = .str j ∧ i.length + j.length ≤ sizeLine ∧ Q (.str (i ++ j)) H) gAddS := fun x y z v u Hi H Q e s rv ru w => by
  unfold gAddS at e
  split at e
  · rename_i i j
    split at e
    · rename_i hl
      cases e
      exact ⟨i, j, rv.str, ru.str, le_line hl, w _ Hi H (Ext.refl s) (.str _)⟩
    · cases e
  · cases e
theorem ne_addS : NoEx2 gAddS := fun x y c e => by
  unfold gAddS at e
  split at e
  · split at e <;> cases e
  · cases e
theorem ge_addS (ha : GE X true a f) (hb : GE X true b g) : GE X p (.BinOp a .Add b pos) (op2 gAddS f g) := ge_bin op_add_str o_addS ne_addS ha hb
/-! ### slices -/
def tOo (X : Cx) (W : WX) (f : Eo) : TO := fun σ H Q => ∃ F r Hi, Rel X.K F r σ Hi H ∧ Po X W σ Hi H (f r) fun o Hi' H' => Q o H'
def GO (X : Cx) (e : Option Expr) (f : Eo) : Prop := ∀ W : WX, Takes X W → PO X e (tOo X W f)
theorem po_imp {X : Cx} {e : Option Expr} {t t' : TO} (h : PO X e t) (i : ∀ σ H Q, t' σ H Q → t σ H Q) : PO X e t' := ⟨fun pins s σ H Q I q => h.run pins s σ H Q I (i σ H Q q)⟩
theorem go_no : GO X none oNo := fun W tk => po_imp po_none fun σ H Q ⟨F, r, Hi, R, h⟩ => h Hi H R.rfl'
theorem go_at (ha : GE X true a f) : GO X (some a) (oAt f) := fun W tk => po_imp (po_some (ha W tk)) fun σ H Q ⟨F, ρ, Hi, R, h⟩ => by
  refine ⟨F, ρ, Hi, R, (Po.bind h).imp fun x Hi1 H1 _ e1 k v rv => ?_⟩
  have k := k e1
  cases x with
  | int i => exact ⟨i, rv.int, k Hi1 H1 (Ext.refl e1.sub)⟩
  | _ => exact k.elim
theorem sIx_is (n d : Nat) (o : Option Int) : HT.sIx n d o = sIx n d o := by cases o <;> rfl
theorem cut_rps {ds : List D} {vs : List V} (q : Rps K H ds vs) (l h : Option Int) : Rps K H (cut ds l h) (cutV vs l h) := by
  unfold cut cutV
  rw [← q.length, sIx_is, sIx_is]
  exact (q.drop _).take _
variable {lo hi : Option Expr} {fl fh : Eo} {p2 : Pos}
theorem ge_slT (ha : GE X true a f) (hl : GO X lo fl) (hh : GO X hi fh) : GE X p (.Subscript a (.Slice lo hi none p2) pos) (eSlT f fl fh) := fun W tk => pe_imp (pe_slice sl_tupA (ha W tk) (hl W tk) (hh W tk)) fun σ H Q ⟨F, ρ, Hi, R, h⟩ => by
  refine ⟨F, ρ, Hi, R, (Po.bind h).imp fun x Hi1 H1 _ e1 k v rv => ?_⟩
  refine ⟨F, ρ, Hi1, R.ext e1, (Po.bind (k e1)).imp fun l Hi2 H2 _ e2 k => ?_⟩
  refine ⟨F, ρ, Hi2, (R.ext e1).ext e2, (Po.bind (k e2)).imp fun u Hi3 H3 _ e3 k => ?_⟩
  have k := k e3
  cases x with
  | tup ds =>
    obtain ⟨b, vs, rfl, hbi, hb, qs⟩ := ((rv.ext e2).ext e3).tup e3.sub
    refine ⟨b, vs, rfl, SqT.of hb, fun e0 => ?_, fun _ p hp => ?_⟩
    · have e4 : cut ds l u = ds := by
        unfold cut
        rw [← sIx_is, ← sIx_is, qs.length, e0.1, e0.2]
        simp
        rw [← qs.length]
        exact List.take_length
      have k : Po X W σ Hi3 H3 (.ok (D.tup (cut ds l u))) (fun d Hi' H' => ∀ v, RvP X.K p Hi' H' d v → Q v H') := k
      rw [e4] at k
      exact k Hi3 H3 (Ext.refl e3.sub) _ (.inl (.tup hbi qs))
    · exact k _ _ (Ext.tup e3.sub hp) _ (.inl (tup_new e3.sub hp (cut_rps qs l u)))
  | _ => exact k.elim
theorem gn_sl (ha : GE X false a f) (hl : GO X lo fl) (hh : GO X hi fh) : GN X (.Subscript a (.Slice lo hi none p2) pos) (nSl f fl fh) := fun W tk => pe_imp (pe_slice sl_list (ha W tk) (hl W tk) (hh W tk)) fun σ H Q ⟨F, ρ, Hi, R, h⟩ => by
  refine ⟨F, ρ, Hi, R, (Po.bind h).imp fun x Hi1 H1 _ e1 k v rv => ?_⟩
  refine ⟨F, ρ, Hi1, R.ext e1, (Po.bind (k e1)).imp fun l Hi2 H2 _ e2 k => ?_⟩
  refine ⟨F, ρ, Hi2, (R.ext e1).ext e2, (Po.bind (k e2)).imp fun u Hi3 H3 _ e3 k => ?_⟩
  have k := k e3
  cases x with
  | lst ds =>
    obtain ⟨b, vs, rfl, hb, qs⟩ := ((rv.ext e2).ext e3).lst e3.sub
    exact ⟨b, vs, rfl, SqL.of hb, fun p hp => k _ _ (Ext.lst e3.sub hp) p _ (Sm.free ((e1.h.trans e2.h).trans e3.h) hp) upd_same (none_hi e3.sub hp) (cut_rps qs l u)⟩
  | _ => exact k.elim
end
end GM

/-! GMj: tests by comparisons; ranges as lists; short words for the printed terms. -/
namespace GM
open PySem PySem.Spec PyProof.Rows L2
variable [Tb] [Md]
section
variable {X : Cx} {p q : Bool} {e a b c tg iter elt : Expr} {es : List Expr} {f g h : Ee} {n m src : En} {pos : Pos} {K : PySem.W.Frag} {F : Fm} {r : Env} {σ : L2.St} {Hi H Hi' H' : Hp}
theorem t_test {W : WX} {te : TE} {f : Ee} (h : ∀ σ H Q, tE X W true f σ H Q → te σ H Q) : ∀ σ H Q, tT X W (tBl f) σ H Q → tTest te σ H Q := fun σ H Q ⟨F, ρ, Hi, R, k⟩ => by
  refine h σ H _ ⟨F, ρ, Hi, R, (Po.bind k).imp fun x Hi1 H1 _ e1 k v rv => ?_⟩
  have k := k e1
  obtain ⟨c, rfl, rfl⟩ := po_b rv k
  exact ⟨c, rfl, k Hi1 H1 (Ext.refl e1.sub)⟩
theorem gt_cmp {op : CmpOp} {r : R2} {g' : D → D → Rs D} (hr : OpR X (compareOp op) r) (o : Op2 X.K p q r g') (ne : NoEx2 g') (hm : behindInMarks op b = false) (ha : GE X p a f) (hb : GE X q b g) : GT X (.Compare a [op] [b] pos) (tBl (op2 g' f g)) := fun W tk =>
  pt_imp (pt_cmpR hr (ha W tk) (hb W tk) hm) (t_test (t_op2 o ne))
theorem gt_lt (ha : GE X true a f) (hb : GE X true b g) : GT X (.Compare a [.Lt] [b] pos) (tBl (op2 gLt f g)) := gt_cmp op_lt o_lt ne_gI (nomark _) ha hb
theorem gt_le (ha : GE X true a f) (hb : GE X true b g) : GT X (.Compare a [.LtE] [b] pos) (tBl (op2 gLe f g)) := gt_cmp op_le o_le ne_gI (nomark _) ha hb
theorem gt_gt (ha : GE X true a f) (hb : GE X true b g) : GT X (.Compare a [.Gt] [b] pos) (tBl (op2 gGt f g)) := gt_cmp op_gt o_gt ne_gI (nomark _) ha hb
theorem gt_ge (ha : GE X true a f) (hb : GE X true b g) : GT X (.Compare a [.GtE] [b] pos) (tBl (op2 gGe f g)) := gt_cmp op_ge o_ge ne_gI (nomark _) ha hb
theorem gt_eq {k : Nat} (hr : Room k X.A) (ha : GE X false a f) (hb : GE X false b g) : GT X (.Compare a [.Eq] [b] pos) (tBl (op2 gEq f g)) := gt_cmp (op_eqD hr.units) o_eq ne_eq (nomark _) ha hb
theorem gt_ne {k : Nat} (hr : Room k X.A) (ha : GE X false a f) (hb : GE X false b g) : GT X (.Compare a [.NotEq] [b] pos) (tBl (op2 gNe f g)) := gt_cmp (op_neD hr.units) o_ne ne_ne (nomark _) ha hb
theorem gt_in (hm : behindInMarks .In b = false) (ha : GE X true a f) (hb : GE X false b g) : GT X (.Compare a [.In] [b] pos) (tBl (op2 gIn f g)) := gt_cmp op_in_seq o_in ne_in hm ha hb
theorem gt_notIn (hm : behindInMarks .NotIn b = false) (ha : GE X true a f) (hb : GE X false b g) : GT X (.Compare a [.NotIn] [b] pos) (tBl (op2 gNotIn f g)) := gt_cmp op_notIn_seq o_notIn ne_notIn hm ha hb
theorem gt_isN {j : Nat} {pos' : Pos} (ha : GE X false a f) : GT X (.Compare a [.Is] [.Constant .none j pos'] pos) (tBl (op1 gIsN f)) := fun W tk =>
  pt_imp (pt_cmp (pc_isN (ha W tk)) rfl) fun σ H Q ⟨F, ρ, Hi, R, h⟩ => by
    refine ⟨F, ρ, Hi, R, (Po.bind (Po.bind h)).imp fun x Hi1 H1 _ e1 k v rv => ?_⟩
    have k := k e1
    show ∃ c, V.bl (decide (v = .non)) = .bl c ∧ Q c H1
    rw [← non_iff rv]
    exact ⟨_, rfl, k Hi1 H1 (Ext.refl e1.sub) e1 Hi1 H1 (Ext.refl e1.sub)⟩
theorem gt_notN {j : Nat} {pos' : Pos} (ha : GE X false a f) : GT X (.Compare a [.IsNot] [.Constant .none j pos'] pos) (tBl (op1 gNotN f)) := fun W tk =>
  pt_imp (pt_cmp (pc_notN (ha W tk)) rfl) fun σ H Q ⟨F, ρ, Hi, R, h⟩ => by
    refine ⟨F, ρ, Hi, R, (Po.bind (Po.bind h)).imp fun x Hi1 H1 _ e1 k v rv => ?_⟩
    have k := k e1
    show ∃ c, V.bl (!decide (v = .non)) = .bl c ∧ Q c H1
    rw [← non_iff rv]
    exact ⟨_, rfl, k Hi1 H1 (Ext.refl e1.sub) e1 Hi1 H1 (Ext.refl e1.sub)⟩
theorem gt_chLL (ha : GE X true a f) (hb : GE X true b g) (hc : GE X true c h) (hm : lastMarks [.LtE, .LtE] [b, c] = false := by with_unfolding_all rfl) : GT X (.Compare a [.LtE, .LtE] [b, c] pos) (tBl (eChain gLe gLe f g h)) := fun W tk =>
  pt_imp (pt_chain op_le op_le (ha W tk) (hb W tk) (hc W tk) hm) (t_test fun σ H Q z => by
    obtain ⟨F, ρ, Hi, R, h⟩ := z
    refine ⟨F, ρ, Hi, R, (Po.bind h).imp fun x Hi1 H1 _ e1 k v rv => ?_⟩
    refine ⟨F, ρ, Hi1, R.ext e1, (Po.bind (k e1)).imp fun y Hi2 H2 _ e2 k u ru => ?_⟩
    have k := Po.bind (k e2)
    cases e : gLe x y with
    | ok z =>
      rw [e] at k
      refine o_le x y z v u Hi2 H2 _ e e2.sub (rv.ext e2) ru fun w Hi3 H3 e3 rw' => ?_
      have k := Po.bind (k Hi3 H3 e3 e3)
      obtain ⟨d, rfl, rfl⟩ := po_b (p := true) (.inl rw') k
      have k := k Hi3 H3 (Ext.refl e3.sub) (Ext.refl e3.sub)
      refine ⟨d, rfl, ?_⟩
      cases d with
      | true =>
        refine ⟨F, ρ, Hi3, ((R.ext e1).ext e2).ext e3, (Po.bind k).imp fun z Hi4 H4 _ e4 k w rw' => ?_⟩
        exact Po.op2 o_le ne_gI e4.sub ((ru.ext e3).ext e4) rw' (k e4)
      | false => exact k Hi3 H3 (Ext.refl e3.sub) _ (.inl (.bl _))
    | ex c => exact absurd e (ne_gI x y c)
    | bad => rw [e] at k; exact k.elim)

/-! ### list(range(..)), tuple(range(..)) -/
theorem rgV_rps (i j : Int) : Rps K H (rng i (j - i).toNat) (rgV i j) := rps_rng i _
theorem rng_len (i : Int) (k : Nat) : (rng i k).length = k := by unfold rng; rw [List.length_map, List.length_range]
def tRgE (X : Cx) (W : WX) (n : En) : L2.St → Hp → (Int → Int → Hp → Prop) → Prop := fun σ H Q => ∃ F r Hi, Rel X.K F r σ Hi H ∧ Po X W σ Hi H (n r) fun ds Hi' H' => ∀ i j, ds = rng i (j - i).toNat → (-big62 ≤ i ∧ i < big62 ∧ -big62 ≤ j ∧ j < big62) → Q i j H'
def GR (X : Cx) (e : Expr) (n : En) : Prop := ∀ W : WX, Tk X W → PRg X e (tRgE X W n)
end
/-! ### short words -/
/-- an own error's class, of ValueError -/
structure ExC (K : PySem.W.Frag) (mg : Str → Option Value) (c : String) (C : Addr) : Prop where
  gC : mg (Str.ofString c) = some (.ref C)
  xP : PySem.W.excIn K C [.type "ValueError", .type "Exception", .type "BaseException", .type "object"] "ValueError.__new__" = true
  kP : PySem.W.keepIn K (.ref C) = true
  bP : PySem.W.subIn K (.ref C) (.type "BaseException") = some true
  tP : PySem.W.typeIn K (.ref C) = some (.type "type")
section
variable {X : Cx} {p q : Bool} {e a b c tg iter elt : Expr} {es : List Expr} {f g h : Ee} {n m src : En} {pos : Pos}
theorem gv (i : Nat) {x : Str} (hN : X.N[i]? = some x := by rfl) (hv : Vis X.env.scope x := by first | exact .inl rfl | exact .inr (.inl rfl) | exact .inr (.inr rfl)) (hd : (x == ("__debug__" : Str)) = false := by decide) (hcd : (x == ("__classdict__" : Str)) = false := by decide) : GE X p (.Name x pos) (vI i) := ge_v i hN hv hd hcd
theorem go (i : Nat) {x : Str} (hN : X.N[i]? = some x := by rfl) (hv : Vis X.env.scope x := by first | exact .inl rfl | exact .inr (.inl rfl) | exact .inr (.inr rfl)) (hd : (x == ("__debug__" : Str)) = false := by decide) (hcd : (x == ("__classdict__" : Str)) = false := by decide) : GE X false (.Name x pos) (vO i) := ge_o i hN hv hd hcd
theorem gs_rz {c : String} {C : Addr} {m : Str} {j : Nat} {p1 p2 p3 : Pos} (hc : X.calm = true) (E : ExC X.K X.mg c C) (hg : Gl X (Str.ofString c) := by rfl) (hdb : ((Str.ofString c) == ("__debug__" : Str)) = false := by decide) :
    GS X (.Raise (some (.Call (.Name (Str.ofString c) p1) [.Constant (.str m) j p2] [] p3)) none pos) (sRaise c) := gs_raise hc (L2.pmk_own PySem.F.excBase_ValueError E.xP E.gC E.kP (raises_own E.bP E.tP) hg hdb) (L2N.pmk_own PySem.F.excBase_ValueError E.xP E.gC E.kP (raises_own E.bP E.tP) hg hdb) E.gC
theorem gi_seq (ha : GE X p a f) : GI X p tg a (iS f) := fun W tk => ⟨fun pins s σ H Rr I h => by
  obtain ⟨F, ρ, Hi, R, k⟩ := h
  have lst : tI X W p (iL f) σ H Rr ∨ tI X W p (iT f) σ H Rr := by
    unfold iS at k
    unfold tI iL iT
    cases e : f ρ with
    | ex c => rw [e] at k; exact .inl ⟨F, ρ, Hi, R, by rw [e]; exact k⟩
    | bad => rw [e] at k; exact k.elim
    | ok x =>
      rw [e] at k
      cases x with
      | lst ds => exact .inl ⟨F, ρ, Hi, R, by rw [e]; exact k⟩
      | scr ds => exact .inl ⟨F, ρ, Hi, R, by rw [e]; exact k⟩
      | tup ds => exact .inr ⟨F, ρ, Hi, R, by rw [e]; exact k⟩
      | _ => exact k.elim
  rcases lst with z | z
  · exact (gi_list (p := p) (tg := tg) ha W tk).run pins s σ H Rr I z
  · exact (gi_tup (p := p) (tg := tg) ha W tk).run pins s σ H Rr I z⟩
theorem gs_mv (i j : Nat) {x y : Str} {p1 p2 : Pos} (hN : X.N.Nodup) (hi : X.N[i]? = some x := by rfl) (hx : Loc X.env.scope x := by first | exact .inl rfl | exact .inr rfl) (hj : X.N[j]? = some y := by rfl) (hv : Vis X.env.scope y := by first | exact .inl rfl | exact .inr (.inl rfl) | exact .inr (.inr rfl)) (hd : (y == ("__debug__" : Str)) = false := by decide) (hcd : (y == ("__classdict__" : Str)) = false := by decide)
    (hs : swapsWith (.Name y p2) (some (.Name x p1)) pos.line X.env = pure false := by rfl) (hf : X.fn x = true ∨ X.env.scope.names.lookup x = some .local := by first | exact .inl rfl | exact .inr rfl) :
    GS X (.Assign [.Name x p1] (.Name y p2) pos) (sMove i j) := gs_move i j hN hi hx hj hv hd hcd hs hf
theorem gs_pi (i ia ib : Nat) {x y z : Str} {p1 p2 p3 p4 p5 p6 p7 : Pos} {j : Nat} (hNz : X.N.Nodup) (hab : ia ≠ ib := by decide) (hiz : X.N[i]? = some z := by rfl) (hlz : Loc X.env.scope z := by first | exact .inl rfl | exact .inr rfl) (hf : X.fn z = true ∨ X.env.scope.names.lookup z = some .local := by first | exact .inl rfl | exact .inr rfl)
    (hNa : X.N[ia]? = some x := by rfl) (hva : Vis X.env.scope x := by first | exact .inl rfl | exact .inr (.inl rfl) | exact .inr (.inr rfl)) (hNb : X.N[ib]? = some y := by rfl) (hvb : Vis X.env.scope y := by first | exact .inl rfl | exact .inr (.inl rfl) | exact .inr (.inr rfl))
    (hda : (x == ("__debug__" : Str)) = false := by decide) (hcda : (x == ("__classdict__" : Str)) = false := by decide) (hdb : (y == ("__debug__" : Str)) = false := by decide) (hcdb : (y == ("__classdict__" : Str)) = false := by decide)
    (hs : swapsWith (.Subscript (.Name x p1) (.Call (.Attribute (.Name y p2) "pop" p3) [.Constant (.int 0) j p4] [] p5) p6) (some (.Name z p7)) pos.line X.env = pure false := by rfl)
    (hpl : PlainIx (.Call (.Attribute (.Name y p2) "pop" p3) [.Constant (.int 0) j p4] [] p5) := by exact fun _ _ => rfl)
    (hpe : ∀ te to, PE X (.Name y p2) to → PE X (.Constant (.int 0) j p4) te → PE X (.Call (.Attribute (.Name y p2) "pop" p3) [.Constant (.int 0) j p4] [] p5) (tBM X.K "list" rPopAt to (tCons te tNil)) := by exact fun te to h1 h2 => pe_bm PySem.F.plainAttrs_list PySem.F.slot_list_pop PySem.F.type_list_pop mt_popAt h1 (pa_cons h2 pa_nil)) :
    GS X (.Assign [.Name z p7] (.Subscript (.Name x p1) (.Call (.Attribute (.Name y p2) "pop" p3) [.Constant (.int 0) j p4] [] p5) p6) pos) (sPopIx i ia ib) := gs_popIx i ia ib hab hNz hiz hlz hf hNa hva hNb hvb hda hcda hdb hcdb hs hpl hpe
theorem gs_pr {i j : Nat} {x y : Str} {px py pt : Pos} {kt k2 : Nat} {pt2 : Pos} (hc : X.calm = true) (hN : X.N.Nodup) (ha : GE X true a f) (hb : GE X true b g) (hi : X.N[i]? = some x := by rfl) (hj : X.N[j]? = some y := by rfl) (hij : i ≠ j := by decide)
    (hx : X.env.scope.names.lookup x = some .local := by rfl) (hy : X.env.scope.names.lookup y = some .local := by rfl)
    (hw : swappedStores [.Tuple [.Name x px, .Name y py] kt pt] (.Tuple [a, b] k2 pt2) X.env = pure (some [x, y]) := by rfl)
    (he1 : starEach [a, b] X.env = (false, eval a X.env) :: starEach [b] X.env := by rfl) (he2 : starEach [b] X.env = (false, eval b X.env) :: starEach [] X.env := by rfl)
    (hs : swapsWithSole [.Tuple [.Name x px, .Name y py] kt pt] (.Tuple [a, b] k2 pt2) pos.line X.env = pure false := by rfl) :
    GS X (.Assign [.Tuple [.Name x px, .Name y py] kt pt] (.Tuple [a, b] k2 pt2) pos) (sPar i j f g) := gs_par hc hN hi hj hij hx hy ha hb hw he1 he2 hs
structure DefOk (P : Program) (w : World) (K : PySem.W.Frag) (mg : Str → Option Value) (base : Heap) (x : Str) (k : Nat) (ps : List Str) (G : List D → Ro) : Prop where
  ex : ∃ fa fd, FnOk P w K mg base (CXm P w) k fa fd ps (spF K mg G) ∧ mg x = some (.ref fa) ∧ PySem.W.keepIn K (.ref fa) = true ∧ Binds K fd ps []
theorem ge_cd {k j : Nat} {ps : List Str} {G : List D → Ro} {x : Str} {p' : Pos} (Dk : DefOk X.prog X.w X.K X.mg X.base x j ps G) (hr : Room k X.A) (ha : GA X (e :: es) n) (hj : j ≤ k := by decide) (hg : Gl X x := by rfl) (hdb : (x == ("__debug__" : Str)) = false := by decide)
    (he : starEach (e :: es) X.env = (false, eval e X.env) :: starEach es X.env := by rfl) (hpl : (backTo pos (starEach es X.env)).any (·.1) = false := by rfl) : GE X p (.Call (.Name x p') (e :: es) [] pos) (eCall G n) := by
  obtain ⟨fa, fd, F, hm, hk, hb⟩ := Dk.ex
  exact ge_call (F.mono hj) hr hg hm hk hb ha hdb he hpl
theorem gn_cd {k j : Nat} {ps : List Str} {G : List D → Ro} {x : Str} {p' : Pos} (Dk : DefOk X.prog X.w X.K X.mg X.base x j ps G) (hr : Room k X.A) (ha : GA X (e :: es) n) (hj : j ≤ k := by decide) (hg : Gl X x := by rfl) (hdb : (x == ("__debug__" : Str)) = false := by decide)
    (he : starEach (e :: es) X.env = (false, eval e X.env) :: starEach es X.env := by rfl) (hpl : (backTo pos (starEach es X.env)).any (·.1) = false := by rfl) : GN X (.Call (.Name x p') (e :: es) [] pos) (nCall G n) := by
  obtain ⟨fa, fd, F, hm, hk, hb⟩ := Dk.ex
  exact gn_call (F.mono hj) hr hg hm hk hb ha hdb he hpl
theorem gs_appD (i : Nat) {x : Str} {p1 p2 p3 : Pos} (he : GE X true e f) (hN : X.N[i]? = some x := by rfl) (hv : Vis X.env.scope x := by first | exact .inl rfl | exact .inr (.inl rfl) | exact .inr (.inr rfl)) (hd : (x == ("__debug__" : Str)) = false := by decide) (hcd : (x == ("__classdict__" : Str)) = false := by decide)
    (hs : swapsWith (.Call (.Attribute (.Name x p1) "append" p2) [e] [] p3) none pos.line X.env = pure false := by rfl) (hpe : ∀ te, PE X e te → PE X (.Call (.Attribute (.Name x p1) "append" p2) [e] [] p3) (tBM X.K "list" (rAppend) (tVar i) (tCons te tNil)) := by exact fun te h => pe_bm PySem.F.plainAttrs_list PySem.F.slot_list_append PySem.F.type_list_append mt_append (L2.pv _) (pa_cons h pa_nil)) :
    GS X (.Expr (.Call (.Attribute (.Name x p1) "append" p2) [e] [] p3) pos) (sApp i f) := gs_app i hN hv he hd hcd hs hpe
theorem gs_extD (i : Nat) {x : Str} {p1 p2 p3 : Pos} (he : GN X e n) (hN : X.N[i]? = some x := by rfl) (hv : Vis X.env.scope x := by first | exact .inl rfl | exact .inr (.inl rfl) | exact .inr (.inr rfl)) (hd : (x == ("__debug__" : Str)) = false := by decide) (hcd : (x == ("__classdict__" : Str)) = false := by decide)
    (hs : swapsWith (.Call (.Attribute (.Name x p1) "extend" p2) [e] [] p3) none pos.line X.env = pure false := by rfl) (hpe : ∀ te, PE X e te → PE X (.Call (.Attribute (.Name x p1) "extend" p2) [e] [] p3) (tBM X.K "list" (rExtend) (tVar i) (tCons te tNil)) := by exact fun te h => pe_bm PySem.F.plainAttrs_list PySem.F.slot_list_extend PySem.F.type_list_extend mt_extend (L2.pv _) (pa_cons h pa_nil)) :
    GS X (.Expr (.Call (.Attribute (.Name x p1) "extend" p2) [e] [] p3) pos) (sExt i n) := gs_ext i hN hv he hd hcd hs hpe
theorem gs_putD (i : Nat) {x : Str} {p1 p2 : Pos} (he : GE X true e f) (hi : GE X true a g) (hN : X.N[i]? = some x := by rfl) (hv : Vis X.env.scope x := by first | exact .inl rfl | exact .inr (.inl rfl) | exact .inr (.inr rfl)) (hd : (x == ("__debug__" : Str)) = false := by decide) (hcd : (x == ("__classdict__" : Str)) = false := by decide)
    (hps : ∀ to te ti, PE X (.Name x p1) to → PE X e te → PE X a ti → PS X (.Assign [.Subscript (.Name x p1) a p2] e pos) (tAsg te (L2.gSub to ti rSetL)) := by exact fun to te ti h1 h2 h3 => ps_asg h2 (pg_sub h1 h3 set_list)) : GS X (.Assign [.Subscript (.Name x p1) a p2] e pos) (sPut i g f) := gs_put i hN hv he hi hd hcd hps
theorem gs_st (i : Nat) {x : Str} {pos' : Pos} (hN : X.N.Nodup) (he : GE X true e f) (hi : X.N[i]? = some x := by rfl) (hx : Loc X.env.scope x := by first | exact .inl rfl | exact .inr rfl) (hs : swapsWith e (some (.Name x pos')) pos.line X.env = pure false := by rfl) (hf : X.fn x = true ∨ X.env.scope.names.lookup x = some .local := by first | exact .inl rfl | exact .inr rfl) :
    GS X (.Assign [.Name x pos'] e pos) (sSet i f) := gs_set i hN hi hx he hs hf
theorem gs_stN (i : Nat) {x : Str} {pos' : Pos} (hN : X.N.Nodup) (he : GN X e n) (hi : X.N[i]? = some x := by rfl) (hx : Loc X.env.scope x := by first | exact .inl rfl | exact .inr rfl) (hs : swapsWith e (some (.Name x pos')) pos.line X.env = pure false := by rfl) (hf : X.fn x = true ∨ X.env.scope.names.lookup x = some .local := by first | exact .inl rfl | exact .inr rfl) :
    GS X (.Assign [.Name x pos'] e pos) (sSetN i n) := gs_setN i hN hi hx he hs hf
theorem gs_agD (i : Nat) {x : Str} {p1 : Pos} (hN : X.N.Nodup) (he : GE X true e f) (hi : X.N[i]? = some x := by rfl) (hx : Loc X.env.scope x := by first | exact .inl rfl | exact .inr rfl) (hf : X.fn x = true ∨ X.env.scope.names.lookup x = some .local := by first | exact .inl rfl | exact .inr rfl) :
    GS X (.AugAssign (.Name x p1) .Add e pos) (sAug i f) := gs_aug i hN hi hx he hf
theorem gs_rO (i : Nat) {x : Str} {px : Pos} (hN : X.N[i]? = some x := by rfl) (hv : Vis X.env.scope x := by first | exact .inl rfl | exact .inr (.inl rfl) | exact .inr (.inr rfl)) (hd : (x == ("__debug__" : Str)) = false := by decide) (hcd : (x == ("__classdict__" : Str)) = false := by decide) : GS X (.Return (some (.Name x px)) pos) (sRetO i) := gs_retO i hN hv hd hcd
theorem gn_nm (i : Nat) {x : Str} {vs : List Nat} (hN : X.N.Nodup) (hi : X.N[i]? = some x := by rfl) (hx : Loc X.env.scope x := by first | exact .inl rfl | exact .inr rfl) (hf : X.fn x = true ∨ X.env.scope.names.lookup x = some .local := by first | exact .inl rfl | exact .inr rfl) (hv : i ∈ vs := by decide) : GG X (.Name x pos) (gNm i) vs := gg_nm hN hi hx hf hv
theorem gn_tp (i j : Nat) {x y : Str} {vs : List Nat} {k : Nat} {p1 p2 : Pos} (hc : X.calm = true) (hN : X.N.Nodup) (hi : X.N[i]? = some x := by rfl) (hj : X.N[j]? = some y := by rfl) (hx : Loc X.env.scope x := by first | exact .inl rfl | exact .inr rfl) (hy : Loc X.env.scope y := by first | exact .inl rfl | exact .inr rfl)
    (hf : X.fn x = true ∨ X.env.scope.names.lookup x = some .local := by first | exact .inl rfl | exact .inr rfl) (hf2 : X.fn y = true ∨ X.env.scope.names.lookup y = some .local := by first | exact .inl rfl | exact .inr rfl) (hv : i ∈ vs := by decide) (hv2 : j ∈ vs := by decide)
    (hs1 : (assignEach [.Name x p1, .Name y p2] X.env).map (·.2) = assign (.Name x p1) X.env :: (assignEach [.Name y p2] X.env).map (·.2) := by rfl) (hs2 : (assignEach [.Name y p2] X.env).map (·.2) = assign (.Name y p2) X.env :: (assignEach [] X.env).map (·.2) := by rfl)
    (hn : (assignEach [.Name x p1, .Name y p2] X.env).length = 2 := by rfl) (hst : (assignEach [.Name x p1, .Name y p2] X.env).findIdx? (·.1) = none := by rfl) : GG X (.Tuple [.Name x p1, .Name y p2] k pos) (gTp [i, j]) vs :=
  gg_tp2 hc (pgs_cons (pg_name hN hi hx hf) (pgs_cons (pg_name hN hj hy hf2) pgs_nil hs2) hs1) hn hst hv hv2
end
theorem DefOk.of {P : Program} {w : World} {K : PySem.W.Frag} {mg : Str → Option Value} {base : Heap} {x : Str} {k : Nat} {ps : List Str} {G : List D → Ro} {qual : Str} {st : Stmt} {fa : Addr} {fd : FuncData} (F : Fun K x qual st fa fd) (gm : mg x = some (.ref fa)) (hb : Binds K fd ps [])
    (h : FnOk P w K mg base (CXm P w) k fa fd ps (spF K mg G)) : DefOk P w K mg base x k ps G := ⟨⟨fa, fd, h, gm, F.kp, hb⟩⟩
end GM

/-! GMk: a law's end. -/
namespace GM
open PySem PySem.Spec PyProof.Rows L2
variable [Tb]
def spLaw (K : PySem.W.Frag) : Sp := fun vs H Q _ => ∃ (a : Addr) (ns : List Int), vs = [.ref a] ∧ Scr K H a ns ∧ ns.length ≤ 63 ∧ Tbs H ∧ ∀ H', Q (.bl true) H'
theorem only_scr {K : PySem.W.Frag} {H : Hp} {a : Addr} {ns : List Int} (o : Only H) (h : SqL K H a (ns.map V.int)) : Scr K H a ns := by
  rcases h with (h | ⟨u, h⟩) | h
  · rcases o a with e | ⟨u, xs, e⟩
    · rw [e] at h; cases h
    · rw [e] at h; cases h
  · exact .inl ⟨u, h⟩
  · exact .inr (.inr h)
section
variable {P : Program} {w : World} {K : PySem.W.Frag} {mg : Str → Option Value} {base : Heap} {k : Nat} {f : Addr} {fd : FuncData} {ps : List Str} {G : List D → Ro} {CX : CXT}
theorem spLaw_of (hf : ∀ ns : List Int, ns.length ≤ 63 → G [.scr ns] = .rt (.bl true)) (F : FnOk P w K mg base CX k f fd ps (spF K mg G)) : FnOk P w K mg base CX k f fd ps (spLaw K) :=
  F.imp fun vs H Q E ⟨a, ns, e, hs, hl, tb, q⟩ => by
    subst e
    refine ⟨tb, [.scr ns], .cons (.scr hs) .nil, ?_⟩
    rw [hf ns hl]
    intro v H' _ rv
    cases rv
    exact q H'
theorem cx_none {H : Hp} {s : Shared} {e : Value} {s' : Shared} (h : L2.CX P w [] H s (fun _ _ _ => False) e s') : False := by
  obtain ⟨_, _, _, _, _, _, _, _, _, _, _, _, z⟩ := h
  exact z
end
end GM

/-! GMl: more of the mirror: ranges with a step, enumerate, zip. -/
namespace GM
open PySem
def rngC (lo c : Int) (n : Nat) : List D := (List.range n).map fun (k : Nat) => D.int (lo + (k : Int) * c)
def rngSz (i j c : Int) : Nat := if 0 < c then (if i < j then ((j - i - 1) / c + 1).toNat else 0) else (if j < i then ((i - j - 1) / (-c) + 1).toNat else 0)
def big30 : Int := 1000000000
def iR3 (a b d : Ee) : En := fun r => (a r).bind fun x => (b r).bind fun y => (d r).bind fun z => match x, y, z with
  | .int i, .int j, .int c => if c ≠ 0 ∧ (-big30 ≤ i ∧ i ≤ big30) ∧ (-big30 ≤ j ∧ j ≤ big30) ∧ -big30 ≤ c ∧ c ≤ big30 then .ok (rngC i c (rngSz i j c)) else .bad
  | _, _, _ => .bad
def enumD : Nat → List D → List D
  | _, [] => []
  | k, d :: r => .tup [.int (k : Int), d] :: enumD (k + 1) r
def lstEnum : D → Rs (List D)
  | .lst ds => .ok (enumD 0 ds)
  | _ => .bad
def iEnumL (a : Ee) : En := fun r => (a r).bind lstEnum
def enumOf : D → Rs (List D)
  | .lst ds => .ok (enumD 0 ds)
  | .tup ds => .ok (enumD 0 ds)
  | _ => .bad
/-- enumerate of a list or a tuple -/
def iEnumA (a : Ee) : En := fun r => (a r).bind enumOf
def zipD : List D → List D → List D
  | d :: r, e :: s => .tup [d, e] :: zipD r s
  | _, _ => []
def iZipL (a b : En) : En := fun r => (a r).bind fun xs => (b r).bind fun ys => .ok (zipD xs ys)
/-- not a, by truth, as a value -/
def eNt (a : Ee) : Ee := fun r => (a r).bind fun x => (truth x).bind fun b => .ok (.bl (!b))
def gMax2 := gI fun i j => .int (if j > i then j else i)
def gMin2 := gI fun i j => .int (if j < i then j else i)
def gMaxD (x d : D) : Rs D := match x with
  | .lst ds => withInts (.lst ds) fun ns => if ns.isEmpty then .ok d else .ok (.int (maxI ns))
  | _ => .bad
def gMinD (x d : D) : Rs D := match x with
  | .lst ds => withInts (.lst ds) fun ns => if ns.isEmpty then .ok d else .ok (.int (minI ns))
  | _ => .bad
/-- zip of two lists, of two tuples -/
def zipOf : D → D → Rs (List D)
  | .lst xs, .lst ys => .ok (zipD xs ys)
  | .tup xs, .tup ys => .ok (zipD xs ys)
  | _, _ => .bad
def iZipA (a b : Ee) : En := fun r => (a r).bind fun x => (b r).bind fun y => zipOf x y
/-- the classes of a clause: none = not caught, some bs = caught, and what isinstance tells -/
abbrev TL := List (String × Option (List Bool))
def csL (L : TL) (c : String) : Option Bool := (L.lookup c).map Option.isSome
def bsL (L : TL) (c : String) : List Bool := match L.lookup c with
  | some (some bs) => bs
  | _ => []
/-- texts of a list of data -/
def asStrs : List D → Option (List Str)
  | [] => some []
  | .str s :: r => (asStrs r).map fun is => s :: is
  | _ :: _ => none
/-- sep.join(list) -/
def gJoin (a : Str) (y : D) : Rs D := match y with
  | .lst ds => (match asStrs ds with
    | some ys => if (ys.map (·.length)).sum + ys.length * a.length ≤ lim then .ok (.str (Str.join a ys)) else .bad
    | none => .bad)
  | _ => .bad
def eJoin (a b : Ee) : Ee := fun r => (a r).bind fun x => match x with
  | .str s => (b r).bind fun y => gJoin s y
  | _ => .bad
/-- str(int) -/
def gStrI (x : D) : Rs D := match x with
  | .int i => if -1000000 ≤ i ∧ i ≤ 1000000 then .ok (.str (toString i)) else .bad
  | _ => .bad
/-- a tuple the other way round -/
def gRev (x : D) : Rs D := match x with
  | .tup ds => .ok (.tup ds.reverse)
  | _ => .bad
/-- is, of truths -/
def gIsB (x y : D) : Rs D := match x, y with
  | .bl a, .bl b => .ok (.bl (decide (a = b)))
  | _, _ => .bad
/-- lists of ints by their items, the first first -/
def lexL : List Int → List Int → Bool
  | [], [] => false
  | [], _ :: _ => true
  | _ :: _, [] => false
  | a :: r, b :: s => if a = b then lexL r s else decide (a < b)
def insL (a : List Int) : List (List Int) → List (List Int)
  | [] => [a]
  | b :: r => if lexL b a then b :: insL a r else a :: b :: r
def sortL : List (List Int) → List (List Int)
  | [] => []
  | a :: r => insL a (sortL r)
/-- the ints of tuples, none of them empty -/
def asTups : List D → Option (List (List Int))
  | [] => some []
  | .tup ds :: r => (asInts ds).bind fun ns => if ns.isEmpty then none else (asTups r).map fun l => ns :: l
  | _ :: _ => none
def dTups (l : List (List Int)) : List D := l.map fun ns => D.tup (dInts ns)
/-- sorted of a list of tuples of ints -/
def bSortT (x : D) : Rs (List D) := match x with
  | .lst ds => (match asTups ds with
    | some l => if l.length ≤ lim then .ok (dTups (sortL l)) else .bad
    | none => .bad)
  | _ => .bad
/-! ### the order -/
theorem lexL_refl : ∀ a : List Int, lexL a a = false
  | [] => rfl
  | a :: r => by unfold lexL; rw [if_pos rfl]; exact lexL_refl r
theorem lexL_asym : ∀ a b : List Int, lexL a b = true → lexL b a = false
  | [], [], h => by cases h
  | [], _ :: _, _ => rfl
  | _ :: _, [], h => by cases h
  | a :: r, b :: s, h => by
    unfold lexL at h ⊢
    by_cases e : a = b
    · rw [if_pos e] at h; rw [if_pos e.symm]; exact lexL_asym r s h
    · rw [if_neg e] at h; rw [if_neg (fun z => e z.symm)]
      have := of_decide_eq_true h
      exact decide_eq_false (by omega)
theorem lexL_tr : ∀ x y z : List Int, lexL y x = false → lexL z y = false → lexL z x = false
  | [], [], [], _, _ => rfl
  | [], [], _ :: _, _, _ => rfl
  | [], _ :: _, _, _, h => by
    rename_i z _
    cases z <;> first | rfl | (rename_i h2 _ _; rfl) 
  | _ :: _, [], _, h, _ => by cases h
  | _ :: _, _ :: _, [], _, h => by cases h
  | a :: r, b :: s, c :: t, h1, h2 => by
    unfold lexL at h1 h2 ⊢
    by_cases e : b = a
    · rw [if_pos e] at h1
      by_cases e' : c = b
      · rw [if_pos e'] at h2; rw [if_pos (e'.trans e)]; exact lexL_tr r s t h1 h2
      · rw [if_neg e'] at h2; rw [if_neg (fun z => e' (z.trans e.symm))]
        have := of_decide_eq_false h2
        exact decide_eq_false (by omega)
    · rw [if_neg e] at h1
      have k1 := of_decide_eq_false h1
      by_cases e' : c = b
      · rw [if_pos e'] at h2
        rw [if_neg (fun z => e (e'.symm.trans z))]
        exact decide_eq_false (by omega)
      · rw [if_neg e'] at h2
        have k2 := of_decide_eq_false h2
        rw [if_neg (by omega)]
        exact decide_eq_false (by omega)
theorem lexL_anti : ∀ a b : List Int, lexL a b = false → lexL b a = false → a = b
  | [], [], _, _ => rfl
  | [], _ :: _, h, _ => by cases h
  | _ :: _, [], _, h => by cases h
  | a :: r, b :: s, h1, h2 => by
    unfold lexL at h1 h2
    by_cases e : a = b
    · rw [if_pos e] at h1; rw [if_pos e.symm] at h2; rw [e, lexL_anti r s h1 h2]
    · rw [if_neg e] at h1; rw [if_neg (fun z => e z.symm)] at h2
      have k1 := of_decide_eq_false h1
      have k2 := of_decide_eq_false h2
      omega
abbrev SrL (l : List (List Int)) : Prop := l.Pairwise fun x y => lexL y x = false
theorem insL_perm (a : List Int) : ∀ l, (insL a l).Perm (a :: l)
  | [] => List.Perm.refl _
  | b :: r => by
    unfold insL
    split
    · exact ((insL_perm a r).cons b).trans (List.Perm.swap a b r)
    · exact List.Perm.refl _
theorem sortL_perm : ∀ l, (sortL l).Perm l
  | [] => List.Perm.refl _
  | a :: r => (insL_perm a _).trans ((sortL_perm r).cons a)
theorem insL_sorted (a : List Int) : ∀ l, SrL l → SrL (insL a l)
  | [], _ => List.pairwise_singleton _ _
  | b :: r, h => by
    unfold insL
    split
    · rename_i hab
      refine List.pairwise_cons.mpr ⟨fun x hx => ?_, insL_sorted a r (List.pairwise_cons.mp h).2⟩
      rcases List.mem_cons.mp ((insL_perm a r).mem_iff.mp hx) with rfl | hx
      · exact lexL_asym _ _ hab
      · exact (List.pairwise_cons.mp h).1 x hx
    · rename_i hab
      have hab : lexL b a = false := by simpa using hab
      refine List.pairwise_cons.mpr ⟨fun x hx => ?_, h⟩
      rcases List.mem_cons.mp hx with rfl | hx
      · exact hab
      · exact lexL_tr _ _ _ hab ((List.pairwise_cons.mp h).1 x hx)
theorem sortL_sorted : ∀ l, SrL (sortL l)
  | [] => .nil
  | a :: r => insL_sorted a _ (sortL_sorted r)
theorem sortedL_unique : ∀ {l m : List (List Int)}, l.Perm m → SrL l → SrL m → l = m
  | [], m, p, _, _ => (List.nil_perm.mp p).symm
  | a :: r, [], p, _, _ => by cases List.perm_nil.mp p
  | a :: r, b :: s, p, h1, h2 => by
    have e : a = b := by
      have h3 := (List.pairwise_cons.mp h1).1
      have h4 := (List.pairwise_cons.mp h2).1
      have m1 : a ∈ b :: s := p.mem_iff.mp List.mem_cons_self
      have m2 : b ∈ a :: r := p.mem_iff.mpr List.mem_cons_self
      rcases List.mem_cons.mp m1 with e | m1
      · exact e
      · rcases List.mem_cons.mp m2 with e | m2
        · exact e.symm
        · exact lexL_anti _ _ (h4 a m1) (h3 b m2)
    subst e
    rw [sortedL_unique (List.Perm.cons_inv p) (List.pairwise_cons.mp h1).2 (List.pairwise_cons.mp h2).2]
theorem sortL_is {l m : List (List Int)} (p : l.Perm m) (s : SrL l) : l = sortL m := sortedL_unique (p.trans (sortL_perm m).symm) s (sortL_sorted m)
mutual
def noFn : D → Bool
  | .tup ds => noFns ds
  | .lst ds => noFns ds
  | .fn _ _ => false
  | _ => true
def noFns : List D → Bool
  | [] => true
  | d :: ds => noFn d && noFns ds
end
/-- a call of what slot i holds: a function of the text; F tells what they reckon -/
def eHas (F : Nat → List D → Ro) (i : Nat) (n : En) : Ee := fun r => match r[i]? with
  | some (.imm (.fn t ds)) => (n r).bind fun xs => roE (F t (xs ++ ds))
  | _ => .bad
/-- what slots hold -/
def capD : List Nat → Env → Rs (List D)
  | [], _ => .ok []
  | i :: is, r => match r[i]? with
    | some (.imm d) => (capD is r).bind fun ds => .ok (d :: ds)
    | _ => .bad
/-- G(lambda ..): the lambda t, that captures the slots is -/
def eLamC (G : List D → Ro) (t : Nat) (is : List Nat) : Ee := fun r => (capD is r).bind fun ds => match G [.fn t ds] with
  | .rt d => if noFn d then .ok d else .bad
  | .ex c => .ex c
  | _ => .bad
/-- a lambda's reckoning: its parameters, then what it captures; a truth -/
def lamF (n : Nat) (ee : Ee) (zs : List D) : Ro := if zs.length = n ∧ noFns zs then (match ee (zs.map SV.imm) with
  | .ok (.bl b) => .rt (.bl b)
  | _ => .bad) else .bad
/-- x in a list, whatever its items are -/
def gInD (x y : D) : Rs D := match y with
  | .lst ds => if dsh 7 x && dshs 7 ds then .ok (.bl (inL x ds)) else .bad
  | _ => .bad
/-- i ** j, j written out and small -/
def gPow (x y : D) : Rs D := match x, y with
  | .int i, .int j => if 0 ≤ j ∧ j ≤ 100 ∧ -1000000 ≤ i ∧ i ≤ 1000000 then .ok (.int (i ^ j.toNat)) else .bad
  | _, _ => .bad
/-- a def that may give a list that it holds, but only where it was handed none -/
def runB (n np : Nat) (b : Es) (ds : List D) : Ro := runF (!noLs ds) n np b ds
/-! ### texts -/
/-- a text of these signs -/
def mkS (l : List Nat) : D := .str ⟨l.toArray⟩
/-- cut at each sign c -/
def splN (c : Nat) : List Nat → List Nat → List (List Nat)
  | acc, [] => [acc]
  | acc, d :: r => if d = c then acc :: splN c [] r else splN c (acc ++ [d]) r
def gSpl (x y : D) : Rs (List D) := match x, y with
  | .str a, .str b => match b.cps.toList with
    | [c] => if c < 256 ∧ a.length ≤ 1000000 then .ok ((splN c [] a.cps.toList).map mkS) else .bad
    | _ => .bad
  | _, _ => .bad
def nSpl (a b : Ee) : En := fun r => (a r).bind fun x => match x with
  | .str s => (b r).bind fun y => gSpl (.str s) y
  | _ => .bad
/-- a text's signs -/
def signs (x : D) : Rs (List D) := match x with
  | .str a => .ok (a.cps.toList.map fun c => mkS [c])
  | _ => .bad
def iTx (a : Ee) : En := fun r => (a r).bind signs
/-- one sign in a text -/
def gInS (x y : D) : Rs D := match x, y with
  | .str a, .str z => match a.cps.toList with
    | [c] => .ok (.bl (decide (c ∈ z.cps.toList)))
    | _ => .bad
  | _, _ => .bad
def gNotInS (x y : D) : Rs D := match x, y with
  | .str a, .str z => match a.cps.toList with
    | [c] => .ok (.bl (!decide (c ∈ z.cps.toList)))
    | _ => .bad
  | _, _ => .bad
/-- the number of figures -/
def valN (l : List Nat) : Nat := l.foldl (fun acc c => acc * 10 + (c - 48)) 0
def gIntS (x : D) : Rs D := match x with
  | .str a => if a.length ≤ 640 ∧ a.cps.toList ≠ [] ∧ a.cps.toList.all (fun c => decide (48 ≤ c ∧ c ≤ 57)) = true then .ok (.int (valN a.cps.toList)) else .bad
  | _ => .bad
/-- a slice of a text -/
def eSlS (a : Ee) (lo hi : Eo) : Ee := fun r => (a r).bind fun x => (lo r).bind fun l => (hi r).bind fun h => match x with
  | .str z => if z.length ≤ 1000000 then .ok (mkS (cut z.cps.toList l h)) else .bad
  | _ => .bad
/-- a comprehension whose element may raise -/
def lcGoX (g : Tg) (t : Et) (e : Ee) (r : Env) : List D → Rs (List D)
  | [] => .ok []
  | x :: xs => (g x r).calm.bind fun r1 => (t r1).calm.bind fun b => if b then (e r1).bind fun y => (lcGoX g t e r xs).bind fun ys => .ok (y :: ys) else lcGoX g t e r xs
def nCompX (src : En) (g : Tg) (ws : List Nat) (t : Et) (e : Ee) : En := fun r => (src r).bind fun items => if items.length ≤ lim then lcGoX g t e (wipeE r ws) items else .bad
/-- a try whose suite raises an error of class c2 -/
def sTryR (cs : String → Option Bool) (b : Es) (c2 : String) : Es := fun r => match b r with
  | .ex c q => (match cs c with
    | some true => .ex c2 q
    | some false => .ex c q
    | none => .bad)
  | o => o
/-- the suite that sets a name to what isinstance tells, in two parts; the error's own name is gone -/
def suK (i j : Nat) (bs : String → List Bool) (c : String) : Es := fun r => if i < r.length ∧ j < r.length ∧ i ≠ j then .nx ((r.set j (.imm (.lst ((bs c).map D.bl)))).set i .no) else .bad
/-- what holds no list, nor is one, and stands in no list's stead -/
def flatD : D → Bool
  | .non => true
  | .bl _ => true
  | .int _ => true
  | .str _ => true
  | .tup ds => noLs ds
  | _ => false
/-- a list of such -/
def rowD : D → Bool
  | .lst ds => ds.all flatD && decide (ds.length ≤ 1000000)
  | _ => false
def restOk (r : Env) : Bool := r.all fun sv => match sv with
  | .no => true
  | .imm d => noL d
  | .own _ => false
/-- a twin of a list of lists is set (j), the lists of the first (i) are emptied, and what is left returns -/
def sMidR (i j k : Nat) (g : Es) : Es := fun r => match r[i]? with
  | some (.imm (.lst rs)) => if rs.all rowD && decide (rs.length ≤ 1000000) && restOk (r.set i .no) && decide (i ≠ j ∧ i ≠ k ∧ j ≠ k ∧ j < r.length ∧ k < r.length) then
      (match g (((r.set j (.imm (.lst rs))).set i .no).set k .no) with
        | .rt d => .rt d
        | .rn ds => .rn ds
        | _ => .bad) else .bad
  | _ => .bad
end GM

/-! GMm: rules for ranges with a step, enumerate. -/
namespace GM
open PySem PySem.Spec PyProof.Rows L2
variable [Tb]
theorem rngC_of {i j c : Int} (h0 : c ≠ 0) (hi : -big30 ≤ i ∧ i ≤ big30) (hj : -big30 ≤ j ∧ j ≤ big30) (hc : -big30 ≤ c ∧ c ≤ big30) : RgC i j c (rngSz i j c) := by
  unfold big30 at hi hj hc
  have hs : Builtin.Range.rangeSize i j c = (rngSz i j c : Int) ∧ (rngSz i j c : Int) ≤ 2000000001 := by
    unfold Builtin.Range.rangeSize rngSz
    by_cases hp : 0 < c
    · rw [if_pos hp, if_pos hp]
      by_cases hl : i < j
      · rw [if_pos hl, if_pos hl]
        have q1 := Int.ediv_nonneg (a := j - i - 1) (b := c) (by omega) (by omega)
        have q2 := Int.ediv_le_self (a := j - i - 1) c (by omega)
        omega
      · rw [if_neg hl, if_neg hl]; omega
    · rw [if_neg hp, if_neg hp]
      by_cases hl : j < i
      · rw [if_pos hl, if_pos hl]
        have q1 := Int.ediv_nonneg (a := i - j - 1) (b := -c) (by omega) (by omega)
        have q2 := Int.ediv_le_self (a := i - j - 1) (-c) (by omega)
        omega
      · rw [if_neg hl, if_neg hl]; omega
  refine ⟨h0, by omega, ?_, hs.1⟩
  unfold Builtin.Range.small
  rw [hs.1]
  have hb := hs.2
  generalize rngSz i j c = n at hb
  simp only [Builtin.Range.rangeFitsLong, Bool.and_eq_true, Bool.or_eq_true, decide_eq_true_eq, beq_iff_eq]
  refine ⟨⟨⟨⟨⟨by omega, by omega⟩, by omega, by omega⟩, by omega, by omega⟩, by omega, by omega⟩, .inr ?_⟩
  split
  · simp only [Bool.and_eq_true, decide_eq_true_eq]; omega
  · simp only [Bool.and_eq_true, decide_eq_true_eq]; omega
section
variable {X : Cx} {p q : Bool} {e a b c tg iter elt : Expr} {es : List Expr} {f g h : Ee} {n m src : En} {pos : Pos} {K : PySem.W.Frag} {F : Fm} {r : Env} {σ : L2.St} {Hi H Hi' H' : Hp}
theorem walks_rngC {lo c : Int} {k : Nat} : Walks K p Hi H (Itc lo c k) (rngC lo c k) := fun Hi1 H1 s1 s2 s3 => by
  have hl : (rngC lo c k).length = k := by unfold rngC; rw [List.length_map, List.length_range]
  refine ⟨by rw [hl]; exact Nat.le_refl _, fun i d e => ?_⟩
  have hi : i < k := by rw [← hl]; exact (List.getElem?_eq_some_iff.mp e).1
  have ed : d = .int (lo + (i : Int) * c) := by
    unfold rngC at e
    rw [List.getElem?_map, List.getElem?_range hi] at e
    cases e; rfl
  subst ed
  refine ⟨hi, fun v H2 y => ?_⟩
  obtain ⟨rfl, rfl⟩ := y
  exact ⟨Hi1, Ext.refl s2, .int _⟩
theorem gi_r3 {px : Pos} (hg : Gl X "range") (hm : X.mg "range" = none) (ha : GE X true a f) (hb : GE X true b g) (hc : GE X true c h)
    (he : starEach [a, b, c] X.env = (false, eval a X.env) :: starEach [b, c] X.env := by rfl) (he2 : starEach [b, c] X.env = (false, eval b X.env) :: starEach [c] X.env := by rfl) (he3 : starEach [c] X.env = (false, eval c X.env) :: starEach [] X.env := by rfl)
    (hpl : (backTo pos (starEach [b, c] X.env)).any (·.1) = false := by rfl) : GI X p tg (.Call (.Name "range" px) [a, b, c] [] pos) (iR3 f g h) := fun W tk =>
  pi_imp (pi_range3 hg hm (pa_cons (ha W tk) (pa_cons (hb W tk) (pa_cons (hc W tk) pa_nil he3) he2) he) he hpl) fun σ H Rr ⟨F, ρ, Hi, R, h⟩ => by
    refine ⟨F, ρ, Hi, R, (Po.bind h).imp fun x Hi1 H1 _ e1 k v rv => ?_⟩
    refine ⟨F, ρ, Hi1, R.ext e1, (Po.bind (k e1)).imp fun y Hi2 H2 _ e2 k u ru => ?_⟩
    refine ⟨F, ρ, Hi2, (R.ext e1).ext e2, (Po.bind (k e2)).imp fun z Hi3 H3 _ e3 k t rt => ?_⟩
    have k := k e3
    cases x with
    | int i =>
      cases y with
      | int j =>
        cases z with
        | int l =>
          simp only at k
          split at k
          · rename_i hb
            rw [rv.int, ru.int, rt.int]
            exact ⟨i, j, l, _, rfl, rngC_of hb.1 hb.2.1 hb.2.2.1 hb.2.2.2, k Hi3 H3 (Ext.refl e3.sub) _ walks_rngC⟩
          · exact k.elim
        | _ => exact k.elim
      | _ => exact k.elim
    | _ => exact k.elim
theorem enumD_get : ∀ (ds : List D) (k i : Nat), (enumD k ds)[i]? = (ds[i]?).map fun d => D.tup [.int ((k + i : Nat) : Int), d]
  | [], _, _ => by simp [enumD]
  | d :: r, k, 0 => rfl
  | d :: r, k, i + 1 => by
    show (enumD (k + 1) r)[i]? = _
    rw [enumD_get r (k + 1) i]
    show _ = (r[i]?).map _
    rw [show k + 1 + i = k + (i + 1) by omega]
theorem enumD_len : ∀ (ds : List D) (k : Nat), (enumD k ds).length = ds.length
  | [], _ => rfl
  | d :: r, k => by show (enumD (k + 1) r).length + 1 = _; rw [enumD_len r]; rfl
theorem walks_enum {a : Addr} {ds : List D} (h : ∀ Hi1 H1, Sm Hi Hi1 → Sm Hi1 H1 → (p = false → Sm H H1) → ∃ xs, SqL K H1 a xs ∧ Rps K Hi1 ds xs) : Walks K p Hi H (Ite K a) (enumD 0 ds) := fun Hi1 H1 s1 s2 s3 => by
  obtain ⟨xs, hx, q⟩ := h Hi1 H1 s1 s2 s3
  refine ⟨⟨xs, hx, by rw [enumD_len, q.length]; exact Nat.le_refl _⟩, fun i d e => ?_⟩
  rw [enumD_get] at e
  obtain ⟨d1, e1, rfl⟩ := Option.map_eq_some_iff.mp e
  obtain ⟨v, hv, rv⟩ := q.get e1
  refine ⟨⟨xs, v, hx, hv⟩, fun v' H2 y => ?_⟩
  obtain ⟨T, x, rfl, hT, rfl, y⟩ := y
  have := y xs hx
  rw [hv] at this
  cases this
  rw [Nat.zero_add]
  exact ⟨_, Ext.tup s2 hT, tup_new s2 hT (.cons (.int _) (.cons rv .nil))⟩
theorem gi_enum {px tpos : Pos} {elts : List Expr} {kk : Nat} (hg : Gl X "enumerate") (hm : X.mg "enumerate" = none) (ha : GE X p a f) (he : starEach [a] X.env = (false, eval a X.env) :: starEach [] X.env := by rfl) (hs : starEach [a] X.env = [(false, eval a X.env)] := by rfl) :
    GI X p (.Tuple elts kk tpos) (.Call (.Name "enumerate" px) [a] [] pos) (iEnumL f) := fun W tk =>
  pi_imp (pi_enum hg hm (pa_cons (ha W tk) pa_nil he) hs) fun σ H Rr ⟨F, ρ, Hi, R, h⟩ => by
    refine ⟨F, ρ, Hi, R, (Po.bind h).imp fun x Hi1 H1 _ e1 k v rv => ?_⟩
    have k := k e1
    cases x with
    | lst ds =>
      have k := k Hi1 H1 (Ext.refl e1.sub)
      rcases rv with rv | ⟨ep, a, xs, ds', rfl, e2, ha, q⟩
      · cases rv with
        | lst ha q =>
          exact ⟨_, _, rfl, SqL.of (e1.sub.lst ha), k _ (walks_enum fun Hi2 H2 s1 s2 _ => ⟨_, SqL.of (s2.lst (s1.lst ha)), q.same s1⟩)⟩
      · cases e2
        exact ⟨_, _, rfl, SqL.of ha, k _ (walks_enum fun Hi2 H2 s1 s2 s3 => ⟨_, SqL.of ((s3 ep).lst ha), q.same s1⟩)⟩
    | _ => exact k.elim
theorem ge_notT (ha : GE X false a f) : GE X p (.UnaryOp .Not a pos) (eNt f) := fun W tk =>
  pe_imp (pe_notT (ha W tk)) fun σ H Q ⟨F, ρ, Hi, R, h⟩ => by
    refine ⟨F, ρ, Hi, R, (Po.bind h).imp fun x Hi1 H1 _ e1 k v rv => ?_⟩
    have k := Po.bind (k e1)
    have fin : ∀ c, truth x = .ok c → Q (.bl (!c)) H1 := fun c hc => by
      rw [hc] at k
      exact (k Hi1 H1 (Ext.refl e1.sub) (Ext.refl e1.sub)) Hi1 H1 (Ext.refl e1.sub) _ (.inl (.bl _))
    cases x with
    | non => rw [rv.non]; exact ⟨false, rfl, fin _ rfl⟩
    | bl b => rw [rv.bl]; exact ⟨b, rfl, fin _ rfl⟩
    | int i => rw [rv.int]; exact ⟨_, rfl, fin _ rfl⟩
    | str z =>
      rw [rv.str]
      unfold truth at k fin
      by_cases hl : z.length ≤ lim
      · simp only [if_pos hl] at fin
        exact ⟨_, ⟨le_line hl, rfl⟩, fin _ rfl⟩
      · simp only [if_neg hl] at k
        exact k.elim
    | lst ds =>
      obtain ⟨a, xs, rfl, hx, qs⟩ := rv.lst e1.sub
      have e : ds.isEmpty = xs.isEmpty := by
        have := qs.length
        cases ds <;> cases xs <;> simp_all
      exact ⟨_, .inl ⟨xs, SqL.of hx, rfl⟩, fin _ (by show Rs.ok (!ds.isEmpty) = _; rw [e])⟩
    | tup ds =>
      obtain ⟨a, xs, rfl, _, hx, qs⟩ := rv.tup e1.sub
      have e : ds.isEmpty = xs.isEmpty := by
        have := qs.length
        cases ds <;> cases xs <;> simp_all
      exact ⟨_, .inr (.inl ⟨xs, SqT.of hx, rfl⟩), fin _ (by show Rs.ok (!ds.isEmpty) = _; rw [e])⟩
    | scr ns => exact k.elim
    | fn t ds => exact k.elim
end
end GM

/-! GMn: list(range(..)), tuple(range(..)). -/
namespace GM
open PySem PySem.Spec PyProof.Rows L2
variable [Tb]
/-- an expression that makes a range -/
def PRc (X : Cx) (e : Expr) (t : L2.St → Hp → (Int → Int → Int → Hp → Prop) → Prop) : Prop :=
  ∀ (pins : List (Addr × Obj)) (s : Shared) (σ : L2.St) (H : Hp) (Q : Int → Int → Int → Hp → Prop), Inv X pins σ H s → t σ H Q →
    wpAny (model X.prog X.w) X.A (eval e X.env) (fun x s' => ∃ r a b c t u v H', x = .ref r ∧ IsRange s'.heap r a b c t u v ∧ Inv X pins σ H' s' ∧ Q a b c H') X.xe s
def rgC (i c : Int) (k : Nat) : List V := (List.range k).map fun x => V.int (i + (x : Nat) * c)
theorem rps_rgC {K : PySem.W.Frag} {H : Hp} (i c : Int) (k : Nat) : Rps K H (rngC i c k) (rgC i c k) := by
  unfold rngC rgC
  generalize List.range k = l
  induction l with
  | nil => exact .nil
  | cons x r ih => exact .cons (.int _) ih
theorem rng_one (i : Int) (k : Nat) : rng i k = rngC i 1 k := by
  unfold rng rngC
  exact List.map_congr_left fun x _ => by rw [Int.mul_one]
theorem rngC_len (i c : Int) (k : Nat) : (rngC i c k).length = k := by unfold rngC; rw [List.length_map, List.length_range]
theorem vals_rgC {i c : Int} {k : Nat} {acc : Array Value} (h : ItemsOf (fun x v => ∃ t, v = .int (i + x * c) t) acc k) : Vals (rgC i c k) acc.toList := by
  have e : acc.toList.length = k := by rw [Array.length_toList]; exact h.1
  unfold rgC
  rw [← e]
  refine vals_of_get acc.toList _ fun j u hj => ?_
  obtain ⟨t, rfl⟩ := h.2 j u (by rw [← hj, Array.getElem?_toList])
  exact ⟨t, rfl⟩
theorem rgC_one {i j : Int} (h : -big62 ≤ i ∧ i < big62 ∧ -big62 ≤ j ∧ j < big62) : RgC i j 1 (j - i).toNat :=
  ⟨by decide, by decide, small_one h.1 h.2.1 h.2.2.1 h.2.2.2, rangeSize_nat i j⟩
/-- what a range's items are -/
def tRc (X : Cx) (W : WX) (n : En) : L2.St → Hp → (Int → Int → Int → Hp → Prop) → Prop := fun σ H Q => ∃ F r Hi, Rel X.K F r σ Hi H ∧ Po X W σ Hi H (n r) fun ds Hi' H' => ∀ i j c k, ds = rngC i c k → RgC i j c k → Q i j c H'
def GRc (X : Cx) (e : Expr) (n : En) : Prop := ∀ W : WX, Takes X W → PRc X e (tRc X W n)
section
variable {X : Cx} {p : Bool} {e a b c : Expr} {f g h : Ee} {n : En} {pos : Pos}
theorem prc_of {t : L2.St → Hp → (Int → Int → Hp → Prop) → Prop} (h : PRg X e t) : PRc X e (fun σ H Q => t σ H fun a b H' => Q a b 1 H') := fun pins s σ H Q I q =>
  thn (h pins s σ H (fun a b H' => Q a b 1 H') I q) fun x s' ⟨r, a, b, t, u, v, H', e1, e2, e3, e4⟩ => ⟨r, a, b, 1, t, u, v, H', e1, e2, e3, e4⟩
theorem prc_imp {t t' : L2.St → Hp → (Int → Int → Int → Hp → Prop) → Prop} (h : PRc X e t) (i : ∀ σ H Q, t' σ H Q → t σ H Q) : PRc X e t' := fun pins s σ H Q I q => h pins s σ H Q I (i σ H Q q)
theorem prc_3 {ta : TA} {px : Pos} (hg : Gl X "range") (hm : X.mg "range" = none) (ha : PA X [a, b, c] ta)
    (hs : starEach [a, b, c] X.env = (false, eval a X.env) :: starEach [b, c] X.env := by rfl) (hpl : (backTo pos (starEach [b, c] X.env)).any (·.1) = false := by rfl) :
    PRc X (.Call (.Name "range" px) [a, b, c] [] pos) (fun σ H Q => ta σ H fun vs H1 => ∃ i j k : Int, vs = [.int i, .int j, .int k] ∧ k ≠ 0 ∧ k.natAbs < 1073741824 ∧ Q i j k H1) := by
  intro pins s σ H Q I h
  refine Call_ (ld_blt I hg hm boot_range (PyProof.Rows.callWith_type1 (thn (ha.run pos pins s σ H _ I h) fun us s1 ⟨vs, H1, I1, r1, q1⟩ => ?_) hs hpl))
  obtain ⟨i, j, k, e, c0, c1, q⟩ := q1
  subst e
  cases r1 with
  | cons r rr =>
    cases rr with
    | cons r' rr =>
      cases rr with
      | cons r'' rr =>
        cases rr
        obtain ⟨t, rfl⟩ := r
        obtain ⟨t', rfl⟩ := r'
        obtain ⟨t'', rfl⟩ := r''
        refine call_range_3 c0 ?_ (.inl (PyProof.noPylong_small c1))
        exact ⟨_, i, j, k, _, _, _, H1, rfl, IsRange.new _ _ _ _ _ _ _, I1.kept fun b u e => Heap.get?_push_of_some _ e, q⟩
theorem gr_1 {px : Pos} (hg : Gl X "range") (hm : X.mg "range" = none) (ha : GE X true a f) (na : starEach [a] X.env = (false, eval a X.env) :: starEach [] X.env := by rfl) : GRc X (.Call (.Name "range" px) [a] [] pos) (iR1 f) := fun W tk =>
  prc_imp (prc_of (prg_1 hg hm (ha W tk) na)) fun σ H Q ⟨F, ρ, Hi, R, h⟩ => by
    refine ⟨F, ρ, Hi, R, (Po.bind h).imp fun x Hi1 H1 _ e1 k v rv => ?_⟩
    have k := k e1
    cases x with
    | int j =>
      simp only at k
      split at k
      · rename_i hb
        rw [rv.int]
        refine ⟨j, rfl, ?_⟩
        have := k Hi1 H1 (Ext.refl e1.sub) 0 j 1 j.toNat (rng_one _ _)
        refine this ?_
        have := rgC_one (i := 0) (j := j) ⟨by unfold big62; omega, by unfold big62; omega, hb.1, hb.2⟩
        rwa [Int.sub_zero] at this
      · exact k.elim
    | _ => exact k.elim
theorem gr_2 {px : Pos} (hg : Gl X "range") (hm : X.mg "range" = none) (ha : GE X true a f) (hb : GE X true b g) (na : starEach [a, b] X.env = (false, eval a X.env) :: starEach [b] X.env := by rfl)
    (nb : starEach [b] X.env = (false, eval b X.env) :: starEach [] X.env := by rfl) (hp : (backTo pos (starEach [b] X.env)).any (·.1) = false := by rfl) : GRc X (.Call (.Name "range" px) [a, b] [] pos) (iR2 f g) := fun W tk =>
  prc_imp (prc_of (prg_2 hg hm (ha W tk) (hb W tk) na nb hp)) fun σ H Q ⟨F, ρ, Hi, R, h⟩ => by
    refine ⟨F, ρ, Hi, R, (Po.bind h).imp fun x Hi1 H1 _ e1 k v rv => ?_⟩
    refine ⟨F, ρ, Hi1, R.ext e1, (Po.bind (k e1)).imp fun y Hi2 H2 _ e2 k u ru => ?_⟩
    have k := k e2
    cases x with
    | int i =>
      cases y with
      | int j =>
        simp only at k
        split at k
        · rename_i hb
          rw [rv.int, ru.int]
          exact ⟨i, j, rfl, rfl, k Hi2 H2 (Ext.refl e2.sub) i j 1 _ (rng_one _ _) (rgC_one hb)⟩
        · exact k.elim
      | _ => exact k.elim
    | _ => exact k.elim
theorem gr_3 {px : Pos} (hg : Gl X "range") (hm : X.mg "range" = none) (ha : GE X true a f) (hb : GE X true b g) (hc : GE X true c h)
    (he : starEach [a, b, c] X.env = (false, eval a X.env) :: starEach [b, c] X.env := by rfl) (he2 : starEach [b, c] X.env = (false, eval b X.env) :: starEach [c] X.env := by rfl) (he3 : starEach [c] X.env = (false, eval c X.env) :: starEach [] X.env := by rfl)
    (hpl : (backTo pos (starEach [b, c] X.env)).any (·.1) = false := by rfl) : GRc X (.Call (.Name "range" px) [a, b, c] [] pos) (iR3 f g h) := fun W tk =>
  prc_imp (prc_3 hg hm (pa_cons (ha W tk) (pa_cons (hb W tk) (pa_cons (hc W tk) pa_nil he3) he2) he) he hpl) fun σ H Q ⟨F, ρ, Hi, R, h⟩ => by
    refine ⟨F, ρ, Hi, R, (Po.bind h).imp fun x Hi1 H1 _ e1 k v rv => ?_⟩
    refine ⟨F, ρ, Hi1, R.ext e1, (Po.bind (k e1)).imp fun y Hi2 H2 _ e2 k u ru => ?_⟩
    refine ⟨F, ρ, Hi2, (R.ext e1).ext e2, (Po.bind (k e2)).imp fun z Hi3 H3 _ e3 k t rt => ?_⟩
    have k := k e3
    cases x with
    | int i =>
      cases y with
      | int j =>
        cases z with
        | int l =>
          simp only at k
          split at k
          · rename_i hb
            rw [rv.int, ru.int, rt.int]
            have hr := rngC_of hb.1 hb.2.1 hb.2.2.1 hb.2.2.2
            exact ⟨i, j, l, rfl, hr.1, hr.2.1, k Hi3 H3 (Ext.refl e3.sub) i j l _ rfl hr⟩
          · exact k.elim
        | _ => exact k.elim
      | _ => exact k.elim
    | _ => exact k.elim
def tLstRc (te : L2.St → Hp → (Int → Int → Int → Hp → Prop) → Prop) : TE := fun σ H Q => te σ H fun a b c H1 => ∃ k, RgC a b c k ∧ k ≤ 2 ^ 24 ∧ ∀ q, H1 q = none → Q (.ref q) (upd H1 q (.lst (rgC a c k)))
def tTupRc (te : L2.St → Hp → (Int → Int → Int → Hp → Prop) → Prop) : TE := fun σ H Q => te σ H fun a b c H1 => ∃ k, RgC a b c k ∧ k ≤ 2 ^ 24 ∧ ∀ q, H1 q = none → Q (.ref q) (upd H1 q (.tup (rgC a c k)))
theorem rgC_length (i c : Int) (k : Nat) : (rgC i c k).length = k := by unfold rgC; rw [List.length_map, List.length_range]
theorem pe_listRc {te : L2.St → Hp → (Int → Int → Int → Hp → Prop) → Prop} {px : Pos} (hc : X.calm = true) (hg : Gl X "list") (hm : X.mg "list" = none) (he : PRc X e te) (na : starEach [e] X.env = (false, eval e X.env) :: starEach [] X.env := by rfl) : PE X (.Call (.Name "list" px) [e] [] pos) (tLstRc te) := by
  refine ⟨fun pins s σ H Q I h => ?_⟩
  refine Call_ (ld_blt I hg hm boot_list (PyProof.Rows.callWith_type1 (args_cons (thn (he pins s σ H _ I h) fun x s1 ⟨r, a, b, c, t, u, v, H1, ex, hr, I1, k, ok, b5, q⟩ => args_nil ?_) na) na))
  subst ex
  refine call_list_range (n := k) (I1.ok.hd hc) hr ok.2.2.1 ok.2.2.2 b5 fun h' tk acc c' hk e' hi => ?_
  refine ⟨.ref s1.heap.objs.size, upd H1 s1.heap.objs.size (.lst (rgC a c k)), I1.laid hk (Nat.le_refl _) (show ObjOk X.prog X.w _ _ _ (.lst (rgC a c k)) from ⟨?_, acc.toList, c', vals_rgC hi, ?_⟩), rfl, q _ (I1.hok.fresh (Nat.le_refl _))⟩
  · rw [rgC_length, sizeLine_eq]; omega
  · rw [Array.toArray_toList]; exact e'
theorem pe_tupRc {te : L2.St → Hp → (Int → Int → Int → Hp → Prop) → Prop} {px : Pos} (hc : X.calm = true) (hg : Gl X "tuple") (hm : X.mg "tuple" = none) (he : PRc X e te) (na : starEach [e] X.env = (false, eval e X.env) :: starEach [] X.env := by rfl) : PE X (.Call (.Name "tuple" px) [e] [] pos) (tTupRc te) := by
  refine ⟨fun pins s σ H Q I h => ?_⟩
  refine Call_ (ld_blt I hg hm boot_tuple (PyProof.Rows.callWith_type1 (args_cons (thn (he pins s σ H _ I h) fun x s1 ⟨r, a, b, c, t, u, v, H1, ex, hr, I1, k, ok, b5, q⟩ => args_nil ?_) na) na))
  subst ex
  refine call_tuple_range (n := k) (I1.ok.hd hc) hr ok.2.2.1 ok.2.2.2 b5 fun h' tk acc hk hi => ?_
  have I2 : Inv X pins σ H1 { s1 with heap := h', toks := tk } := I1.kept hk
  refine ⟨.ref h'.objs.size, upd H1 h'.objs.size (.tup (rgC a c k)), I2.laid (t' := tk) (fun c o e => Heap.get?_push_of_some _ e) (Nat.le_refl _) (show ObjOk X.prog X.w _ _ _ (.tup (rgC a c k)) from ⟨?_, acc.toList, vals_rgC hi, ?_⟩), rfl, q _ (I2.hok.fresh (Nat.le_refl _))⟩
  · rw [rgC_length, sizeLine_eq]; omega
  · rw [Array.toArray_toList]; exact IsTup.new _ _
/-- only what is a range -/
def IsRgC (n : En) : Prop := ∀ r ds, n r = .ok ds → ∃ i j c k, ds = rngC i c k ∧ RgC i j c k
theorem isRg_1 (f : Ee) : IsRgC (iR1 f) := fun r ds e => by
  unfold iR1 at e
  obtain ⟨x, h1, h2⟩ := bind_ok_of e
  cases x with
  | int j =>
    simp only at h2
    split at h2
    · rename_i hb
      cases h2
      have := rgC_one (i := 0) (j := j) ⟨by unfold big62; omega, by unfold big62; omega, hb.1, hb.2⟩
      rw [Int.sub_zero] at this
      exact ⟨0, j, 1, _, rng_one _ _, this⟩
    · cases h2
  | _ => cases h2
theorem isRg_2 (f g : Ee) : IsRgC (iR2 f g) := fun r ds e => by
  unfold iR2 at e
  obtain ⟨x, h1, h2⟩ := bind_ok_of e
  obtain ⟨y, h3, h4⟩ := bind_ok_of h2
  cases x with
  | int i =>
    cases y with
    | int j =>
      simp only at h4
      split at h4
      · rename_i hb
        cases h4
        exact ⟨i, j, 1, _, rng_one _ _, rgC_one hb⟩
      · cases h4
    | _ => cases h4
  | _ => cases h4
theorem isRg_3 (f g h : Ee) : IsRgC (iR3 f g h) := fun r ds e => by
  unfold iR3 at e
  obtain ⟨x, h1, h2⟩ := bind_ok_of e
  obtain ⟨y, h3, h4⟩ := bind_ok_of h2
  obtain ⟨z, h5, h6⟩ := bind_ok_of h4
  cases x with
  | int i =>
    cases y with
    | int j =>
      cases z with
      | int l =>
        simp only at h6
        split at h6
        · rename_i hb
          cases h6
          exact ⟨i, j, l, _, rfl, rngC_of hb.1 hb.2.1 hb.2.2.1 hb.2.2.2⟩
        · cases h6
      | _ => cases h6
    | _ => cases h6
  | _ => cases h6
theorem gn_listR {px : Pos} (hc : X.calm = true) (hg : Gl X "list") (hm : X.mg "list" = none) (h : GRc X e n) (hn : IsRgC n) (na : starEach [e] X.env = (false, eval e X.env) :: starEach [] X.env := by rfl) : GN X (.Call (.Name "list" px) [e] [] pos) (nRng n) := fun W tk =>
  pe_imp (pe_listRc hc hg hm (h W tk) na) fun σ H Q ⟨F, ρ, Hi, R, h⟩ => by
    refine ⟨F, ρ, Hi, R, ?_⟩
    have h := Po.bind h
    cases e : n ρ with
    | ok ds =>
      obtain ⟨i, j, c, k, rfl, hr⟩ := hn ρ ds e
      rw [e] at h
      refine (show Po X W σ Hi H (Rs.ok (rngC i c k)) _ from h).imp fun ds' Hi1 H1 _ e1 k' i' j' c' k2 e2 hr' => ?_
      subst e2
      have k' := k' e1
      rw [rngC_len] at k'
      split at k'
      · rename_i hl
        refine ⟨k2, hr', by unfold lim at hl; omega, fun q hq => ?_⟩
        exact k' Hi1 _ (Ext.lst e1.sub hq) q (rgC i' c' k2) (Sm.free e1.h hq) upd_same (e1.sub.fr q hq) (rps_rgC _ _ _)
      · exact k'.elim
    | ex c => rw [e] at h; exact h
    | bad => rw [e] at h; exact h
theorem ge_tupR {px : Pos} (hc : X.calm = true) (hg : Gl X "tuple") (hm : X.mg "tuple" = none) (h : GRc X e n) (na : starEach [e] X.env = (false, eval e X.env) :: starEach [] X.env := by rfl) : GE X p (.Call (.Name "tuple" px) [e] [] pos) (eRng n) := fun W tk =>
  pe_imp (pe_tupRc hc hg hm (h W tk) na) fun σ H Q ⟨F, ρ, Hi, R, h⟩ => by
    refine ⟨F, ρ, Hi, R, (Po.bind h).imp fun ds Hi1 H1 _ e1 k i j c k2 e2 hr => ?_⟩
    subst e2
    have k := k e1
    rw [rngC_len] at k
    split at k
    · rename_i hl
      refine ⟨k2, hr, by unfold lim at hl; omega, fun q hq => ?_⟩
      exact k _ _ (Ext.tup e1.sub hq) _ (.inl (tup_new e1.sub hq (rps_rgC _ _ _)))
    · exact k.elim
end
end GM

/-! GMo: the sum of a list or tuple, max and min of two. -/
namespace GM
open PySem PySem.Spec PyProof.Rows L2
variable [Tb]
section
variable {X : Cx} {p : Bool} {e a b : Expr} {f g : Ee} {pos : Pos} {K : PySem.W.Frag}
theorem cr_sumB (hc : X.calm = true) : CallR X (.builtin "sum") (fun vs H Q => ∃ (a : Addr) (ns : List Int), vs = [V.ref a] ∧ (SqL X.K H a (ns.map V.int) ∨ SqT X.K H a (ns.map V.int)) ∧ Q (.int ns.sum) H) := by
  intro pins s σ H vs us Q I r h
  obtain ⟨a, ns, rfl, hs, q⟩ := h
  rcases hs with hs | hs
  · exact cr_sum hc pins s σ H [V.ref a] us Q I r ⟨a, ns, rfl, hs, q⟩
  · obtain ⟨its, rv, hl, _⟩ := I.tuple hs
    rw [Vals.ref1 r]
    have hl : s.heap.IsTuple a its.toArray := hl
    have hi := rv.ints
    obtain ⟨xs, hx⟩ := hi.allInts.items
    have hn : numsOf its.toArray.toList = ns := by rw [show its.toArray.toList = its from rfl, hi.numsOf]
    rw [hx] at hl hn
    rw [nums_intItems] at hn
    refine PySem.W.ktm_sumG (I.ok.hd hc) hl fun h' tk t' hk => ⟨.int ns.sum, H, I.kept hk, ⟨t', ?_⟩, q⟩
    rw [PySem.preSum_eq, List.take_of_length_le (by simp), hn]
theorem tup_ints {ds : List D} {v : V} {α : Type} {fi : List Int → Rs α} {z : α} {Hi H : Hp} (e : withInts (.tup ds) fi = .ok z) (s : Sm Hi H) (rv : RvP K false Hi H (.tup ds) v) : ∃ a ns, v = .ref a ∧ H a = some (.tup (ns.map V.int)) ∧ fi ns = .ok z := by
  obtain ⟨a, xs, rfl, hi, hx, q⟩ := rv.tup s
  unfold withInts at e
  simp only at e
  split at e
  · rename_i ns hs
    exact ⟨a, ns, rfl, by rw [← asInts_rps hs q]; exact s.tup hi, e⟩
  · cases e
theorem o_sumB : Op1 K false (fun v H Q => ∃ (a : Addr) (ns : List Int), [v] = [V.ref a] ∧ (SqL K H a (ns.map V.int) ∨ SqT K H a (ns.map V.int)) ∧ Q (.int ns.sum) H) bSum := fun x z v Hi H Q e s rv w => by
  cases x with
  | lst ds =>
    obtain ⟨a, ns, rfl, ha, e2⟩ := lst_ints (show withInts (.lst ds) _ = _ from e) s rv
    cases e2
    exact ⟨a, ns, rfl, .inl (SqL.of ha), w _ Hi H (Ext.refl s) (.int _)⟩
  | tup ds =>
    obtain ⟨a, ns, rfl, ha, e2⟩ := tup_ints (show withInts (.tup ds) _ = _ from e) s rv
    cases e2
    exact ⟨a, ns, rfl, .inr (SqT.of ha), w _ Hi H (Ext.refl s) (.int _)⟩
  | _ => cases e
theorem ge_sumB {px : Pos} (hc : X.calm = true) (hg : Gl X "sum") (hm : X.mg "sum" = none) (ha : GE X false a f) (he : starEach [a] X.env = (false, eval a X.env) :: starEach [] X.env := by rfl) (hpl : (backTo pos (starEach [] X.env)).any (·.1) = false := by rfl) :
    GE X p (.Call (.Name "sum" px) [a] [] pos) (op1 bSum f) := ge_b1 (cr_sumB hc) o_sumB ne_bSum hg hm (by decide +kernel) ha (by decide) (by decide) he hpl
theorem ge_max2 {px : Pos} (hc : X.calm = true) (hg : Gl X "max") (hm : X.mg "max" = none) (ha : GE X true a f) (hb : GE X true b g) (he : starEach [a, b] X.env = (false, eval a X.env) :: starEach [b] X.env := by rfl) (he2 : starEach [b] X.env = (false, eval b X.env) :: starEach [] X.env := by rfl) (hpl : (backTo pos (starEach [b] X.env)).any (·.1) = false := by rfl) :
    GE X p (.Call (.Name "max" px) [a, b] [] pos) (op2 gMax2 f g) := fun W tk =>
  pe_imp (pe_callB (call_max2 hc) hg hm (by decide +kernel) (pa_cons (ha W tk) (pa_cons (hb W tk) pa_nil he2) he) (by decide) (by decide) he hpl) fun σ H Q ⟨F, ρ, Hi, R, h⟩ => by
    refine ⟨F, ρ, Hi, R, (Po.bind h).imp fun x Hi1 H1 _ e1 k v rv => ?_⟩
    refine ⟨F, ρ, Hi1, R.ext e1, (Po.bind (k e1)).imp fun y Hi2 H2 _ e2 k u ru => ?_⟩
    have k := k e2
    cases x with
    | int i =>
      cases y with
      | int j =>
        rw [rv.int, ru.int]
        exact ⟨i, j, rfl, k Hi2 H2 (Ext.refl e2.sub) _ (.inl (.int _))⟩
      | _ => exact k.elim
    | _ => exact k.elim
theorem ge_min2 {px : Pos} (hc : X.calm = true) (hg : Gl X "min") (hm : X.mg "min" = none) (ha : GE X true a f) (hb : GE X true b g) (he : starEach [a, b] X.env = (false, eval a X.env) :: starEach [b] X.env := by rfl) (he2 : starEach [b] X.env = (false, eval b X.env) :: starEach [] X.env := by rfl) (hpl : (backTo pos (starEach [b] X.env)).any (·.1) = false := by rfl) :
    GE X p (.Call (.Name "min" px) [a, b] [] pos) (op2 gMin2 f g) := fun W tk =>
  pe_imp (pe_callB (call_min2 hc) hg hm (by decide +kernel) (pa_cons (ha W tk) (pa_cons (hb W tk) pa_nil he2) he) (by decide) (by decide) he hpl) fun σ H Q ⟨F, ρ, Hi, R, h⟩ => by
    refine ⟨F, ρ, Hi, R, (Po.bind h).imp fun x Hi1 H1 _ e1 k v rv => ?_⟩
    refine ⟨F, ρ, Hi1, R.ext e1, (Po.bind (k e1)).imp fun y Hi2 H2 _ e2 k u ru => ?_⟩
    have k := k e2
    cases x with
    | int i =>
      cases y with
      | int j =>
        rw [rv.int, ru.int]
        exact ⟨i, j, rfl, k Hi2 H2 (Ext.refl e2.sub) _ (.inl (.int _))⟩
      | _ => exact k.elim
    | _ => exact k.elim
end
end GM

/-! GMp: max and min of a list, with default=. -/
namespace GM
open PySem PySem.Spec PyProof.Rows L2
variable [Tb]
theorem maxOf_is : ∀ (ns : List Int) (y : Int), PySem.W.maxOf y ns ∈ y :: ns ∧ ∀ n ∈ y :: ns, n ≤ PySem.W.maxOf y ns
  | [], y => ⟨List.mem_cons_self, fun n hn => by rw [List.mem_singleton.mp hn]; exact Int.le_refl _⟩
  | x :: r, y => by
    obtain ⟨h1, h2⟩ := maxOf_is r (if decide (y < x) = true then x else y)
    have e : PySem.W.maxOf y (x :: r) = PySem.W.maxOf (if decide (y < x) = true then x else y) r := rfl
    rw [e]
    have hb := h2 _ List.mem_cons_self
    refine ⟨?_, fun n hn => ?_⟩
    · rcases List.mem_cons.mp h1 with h | h
      · rw [h]; split
        · exact List.mem_cons_of_mem _ List.mem_cons_self
        · exact List.mem_cons_self
      · exact List.mem_cons_of_mem _ (List.mem_cons_of_mem _ h)
    · have hxy : y ≤ (if decide (y < x) = true then x else y) ∧ x ≤ (if decide (y < x) = true then x else y) := by
        by_cases c : y < x
        · rw [if_pos (decide_eq_true c)]; omega
        · rw [if_neg (by rw [decide_eq_false c]; exact Bool.false_ne_true)]; omega
      rcases List.mem_cons.mp hn with h | h
      · rw [h]; omega
      · rcases List.mem_cons.mp h with h | h
        · rw [h]; omega
        · exact h2 n (List.mem_cons_of_mem _ h)
theorem minOf_is : ∀ (ns : List Int) (y : Int), PySem.W.minOf y ns ∈ y :: ns ∧ ∀ n ∈ y :: ns, PySem.W.minOf y ns ≤ n
  | [], y => ⟨List.mem_cons_self, fun n hn => by rw [List.mem_singleton.mp hn]; exact Int.le_refl _⟩
  | x :: r, y => by
    obtain ⟨h1, h2⟩ := minOf_is r (if decide (x < y) = true then x else y)
    have e : PySem.W.minOf y (x :: r) = PySem.W.minOf (if decide (x < y) = true then x else y) r := rfl
    rw [e]
    have hb := h2 _ List.mem_cons_self
    refine ⟨?_, fun n hn => ?_⟩
    · rcases List.mem_cons.mp h1 with h | h
      · rw [h]; split
        · exact List.mem_cons_of_mem _ List.mem_cons_self
        · exact List.mem_cons_self
      · exact List.mem_cons_of_mem _ (List.mem_cons_of_mem _ h)
    · have hxy : (if decide (x < y) = true then x else y) ≤ y ∧ (if decide (x < y) = true then x else y) ≤ x := by
        by_cases c : x < y
        · rw [if_pos (decide_eq_true c)]; omega
        · rw [if_neg (by rw [decide_eq_false c]; exact Bool.false_ne_true)]; omega
      rcases List.mem_cons.mp hn with h | h
      · rw [h]; omega
      · rcases List.mem_cons.mp h with h | h
        · rw [h]; omega
        · exact h2 n (List.mem_cons_of_mem _ h)
def rMaxD (K : PySem.W.Frag) : List V → List V → Hp → VK → Prop := fun vs zs H Q => ∃ (a : Addr) (ns : List Int) (d : V), vs = [.ref a] ∧ zs = [d] ∧ SqL K H a (ns.map V.int) ∧ (ns = [] → Q d H) ∧ ∀ m, m ∈ ns → (∀ n ∈ ns, n ≤ m) → Q (.int m) H
def rMinD (K : PySem.W.Frag) : List V → List V → Hp → VK → Prop := fun vs zs H Q => ∃ (a : Addr) (ns : List Int) (d : V), vs = [.ref a] ∧ zs = [d] ∧ SqL K H a (ns.map V.int) ∧ (ns = [] → Q d H) ∧ ∀ m, m ∈ ns → (∀ n ∈ ns, m ≤ n) → Q (.int m) H
section
variable {X : Cx} {p : Bool} {a b : Expr} {f g : Ee} {pos : Pos} {K : PySem.W.Frag} {k : Nat}
theorem cr_maxD (hc : X.calm = true) (hr : Room k X.A) : CallRK X (.builtin "max") [Str.ofString "default"] (rMaxD X.K) := by
  intro pins s σ H xs zs us ws Q I r rz h
  obtain ⟨a, ns, d, rfl, rfl, hs, q0, q1⟩ := h
  obtain ⟨its, rv, hl, _⟩ := I.list hs
  rw [Vals.ref1 r]
  cases rz with
  | cons rd rr =>
    cases rr
    refine PySem.W.max_list_datum_default (α := Int) (I.ok.hd hc) hl.isList (PySem.W.HoldAll.of_ints rv.ints) (by have := hr.units; show X.A.units + 1 + 0 < cLine; omega) (fun e h' tk hk => ⟨d, H, I.kept hk, rd, q0 e⟩) fun y ys i v h' tk e hi hv hk => ?_
    subst e
    obtain ⟨as, r⟩ := hv
    obtain ⟨h1, h2⟩ := maxOf_is ys y
    refine ⟨.int (PySem.W.maxOf y ys), H, I.kept hk, ?_, q1 _ h1 h2⟩
    change Reads h' v (.int _) as at r
    cases r with
    | int n t => exact ⟨t, rfl⟩
theorem cr_minD (hc : X.calm = true) (hr : Room k X.A) : CallRK X (.builtin "min") [Str.ofString "default"] (rMinD X.K) := by
  intro pins s σ H xs zs us ws Q I r rz h
  obtain ⟨a, ns, d, rfl, rfl, hs, q0, q1⟩ := h
  obtain ⟨its, rv, hl, _⟩ := I.list hs
  rw [Vals.ref1 r]
  cases rz with
  | cons rd rr =>
    cases rr
    refine PySem.W.min_list_datum_default (α := Int) (I.ok.hd hc) hl.isList (PySem.W.HoldAll.of_ints rv.ints) (by have := hr.units; show X.A.units + 1 + 0 < cLine; omega) (fun e h' tk hk => ⟨d, H, I.kept hk, rd, q0 e⟩) fun y ys i v h' tk e hi hv hk => ?_
    subst e
    obtain ⟨as, r⟩ := hv
    obtain ⟨h1, h2⟩ := minOf_is ys y
    refine ⟨.int (PySem.W.minOf y ys), H, I.kept hk, ?_, q1 _ h1 h2⟩
    change Reads h' v (.int _) as at r
    cases r with
    | int n t => exact ⟨t, rfl⟩
theorem ne_maxD : NoEx2 gMaxD := fun x y c e => by
  cases x with
  | lst ds => exact ne_withInts (fun ns => by split <;> simp) (show withInts (.lst ds) _ = _ from e)
  | _ => cases e
theorem ne_minD : NoEx2 gMinD := fun x y c e => by
  cases x with
  | lst ds => exact ne_withInts (fun ns => by split <;> simp) (show withInts (.lst ds) _ = _ from e)
  | _ => cases e
theorem o_maxD : Op2 K false true (fun x y H Q => rMaxD K [x] [y] H Q) gMaxD := fun x y z v u Hi H Q e s rv ru w => by
  cases x with
  | lst ds =>
    obtain ⟨a, ns, rfl, ha, e2⟩ := lst_ints (show withInts (.lst ds) _ = _ from e) s rv
    refine ⟨a, ns, u, rfl, rfl, SqL.of ha, fun hn => ?_, fun m hm hy => ?_⟩
    · subst hn
      cases e2
      exact w _ Hi H (Ext.refl s) ru.rp
    · have hne : ns ≠ [] := List.ne_nil_of_mem hm
      rw [if_neg (by intro z; exact hne (List.isEmpty_iff.mp z))] at e2
      cases e2
      obtain ⟨h1, h2⟩ := maxI_mem hne
      rw [show m = maxI ns from Int.le_antisymm (h2 m hm) (hy _ h1)]
      exact w _ Hi H (Ext.refl s) (.int _)
  | _ => cases e
theorem o_minD : Op2 K false true (fun x y H Q => rMinD K [x] [y] H Q) gMinD := fun x y z v u Hi H Q e s rv ru w => by
  cases x with
  | lst ds =>
    obtain ⟨a, ns, rfl, ha, e2⟩ := lst_ints (show withInts (.lst ds) _ = _ from e) s rv
    refine ⟨a, ns, u, rfl, rfl, SqL.of ha, fun hn => ?_, fun m hm hy => ?_⟩
    · subst hn
      cases e2
      exact w _ Hi H (Ext.refl s) ru.rp
    · have hne : ns ≠ [] := List.ne_nil_of_mem hm
      rw [if_neg (by intro z; exact hne (List.isEmpty_iff.mp z))] at e2
      cases e2
      obtain ⟨h1, h2⟩ := minI_mem hne
      rw [show m = minI ns from Int.le_antisymm (hy _ h1) (h2 m hm)]
      exact w _ Hi H (Ext.refl s) (.int _)
  | _ => cases e
theorem ge_maxD {px kp : Pos} (hc : X.calm = true) (hr : Room k X.A) (hg : Gl X "max") (hm : X.mg "max" = none) (ha : GE X false a f) (hb : GE X true b g) (he : starEach [a] X.env = (false, eval a X.env) :: starEach [] X.env := by rfl) (hpl : (backTo pos (starEach [a] X.env)).any (·.1) = false := by rfl) :
    GE X p (.Call (.Name "max" px) [a] [⟨some "default", b, kp⟩] pos) (op2 gMaxD f g) := fun W tk =>
  pe_imp (pe_callBK (ks := [Str.ofString "default"]) (cr_maxD hc hr) hg hm (by decide +kernel) (pa_cons (ha W tk) pa_nil he) (pk_cons (hb W tk) pk_nil) (by decide) (by decide) (by rw [he]; rfl) hpl) (t_op2 o_maxD ne_maxD)
theorem ge_minD {px kp : Pos} (hc : X.calm = true) (hr : Room k X.A) (hg : Gl X "min") (hm : X.mg "min" = none) (ha : GE X false a f) (hb : GE X true b g) (he : starEach [a] X.env = (false, eval a X.env) :: starEach [] X.env := by rfl) (hpl : (backTo pos (starEach [a] X.env)).any (·.1) = false := by rfl) :
    GE X p (.Call (.Name "min" px) [a] [⟨some "default", b, kp⟩] pos) (op2 gMinD f g) := fun W tk =>
  pe_imp (pe_callBK (ks := [Str.ofString "default"]) (cr_minD hc hr) hg hm (by decide +kernel) (pa_cons (ha W tk) pa_nil he) (pk_cons (hb W tk) pk_nil) (by decide) (by decide) (by rw [he]; rfl) hpl) (t_op2 o_minD ne_minD)
end
end GM

/-! GMq: enumerate of a tuple, zip. -/
namespace GM
open PySem PySem.Spec PyProof.Rows L2
variable [Tb]
theorem meets_enumV {v : Value} {o : Obj} {H : Heap → Prop} (B : Begins v o H) (hv : ∃ t, v = .ref t) :
    Meets (Builtin.«enumerate.__new__» ⟨[.type "enumerate", v], []⟩) (fun _ R s => H s.heap ∧
      R (.ok (.ret (.ref (s.heap.push o).objs.size))) { s with heap := (s.heap.push o).push { cls := .type "enumerate", data := .fields #[.none, .bool false, .ref s.heap.objs.size, rawInt 0, .none, .none] } }) :=
  .of_wp fun prog w A R s h => by
    obtain ⟨t, rfl⟩ := hv
    obtain ⟨hp, g, d, tk, os⟩ := s; obtain ⟨h1, h⟩ := h
    have hsub := sub_enumerate
    have q1 : ∀ {A' : Around} {E : Value → Shared → Prop} {Q : Value → Shared → Prop}, Q (.ref hp.objs.size) ⟨hp.push o, g, d, tk, os⟩ → wpAny (model prog w) A' (pyIter (.ref t)) Q E ⟨hp, g, d, tk, os⟩ :=
      fun q => B.iter prog w _ _ ⟨hp, g, d, tk, os⟩ _ h1 q
    wp_walk using q1
    refine wpAny_stack_any fun st => wpAny_pure ?_
    split
    · rename_i c _ _ _ _ _
      cases (c == Value.type "enumerate")
      · wp_walk using q1
        exact ⟨_, rfl, h⟩
      · wp_walk using q1
        exact ⟨_, rfl, h⟩
    · wp_walk using q1
      exact ⟨_, rfl, h⟩
section
variable {prog : Program} {w : World} {A : Around} {E : Value → Shared → Prop} {s : Shared}
theorem call_enumV {t : Addr} {o : Obj} {H : Heap → Prop} {Q : Value → Shared → Prop} (B : Begins (.ref t) o H) (h1 : H s.heap)
    (h : ∀ h', IsEnum h' (s.heap.objs.size + 1) s.heap.objs.size 0 .none → h'.get? s.heap.objs.size = some o → h'.objs.size = s.heap.objs.size + 2 →
      (∀ b o, s.heap.get? b = some o → h'.get? b = some o) → Q (.ref (s.heap.objs.size + 1)) { s with heap := h' }) :
    wpAny (model prog w) A (call (.type "enumerate") [.ref t]) Q E s := by
  refine callType_new F.called_enumerate (by decide) (F.typeCall_enumerate_1 _) (F.newCall_enumerate_1 _) (fun obj => F.args_object_init_2 obj _) F.entry_enumerate_new
    (meets_enumV B ⟨t, rfl⟩) ⟨h1, ?_⟩
  have hz : (s.heap.push o).objs.size = s.heap.objs.size + 1 := Heap.size_push ..
  show _ ∧ _
  rw [hz]
  have he : IsEnum ((s.heap.push o).push { cls := .type "enumerate", data := .fields #[.none, .bool false, .ref s.heap.objs.size, rawInt 0, .none, .none] }) (s.heap.objs.size + 1) s.heap.objs.size 0 .none := by
    have := Heap.get?_push_size (s.heap.push o) (o := { cls := .type "enumerate", data := .fields #[.none, .bool false, .ref s.heap.objs.size, rawInt 0, .none, .none] }) rfl
    rw [hz] at this; exact this
  refine ⟨⟨_, he, rfl⟩, h _ he (Heap.get?_push_of_some _ (Heap.get?_push_size _ B.free)) (by rw [Heap.size_push, hz]) fun b o x => Heap.get?_push_of_some _ (Heap.get?_push_of_some _ x)⟩
end
/-- the tuple at a, each item in a new pair with its place -/
def IteT (K : PySem.W.Frag) (a : Addr) : It :=
  ⟨fun i H => ∃ (xs : List V) (x : V), SqT K H a xs ∧ xs[i]? = some x, fun i H v H' => ∃ T x, v = .ref T ∧ H T = none ∧ H' = upd H T (.tup [.int (i : Nat), x]) ∧ ∀ xs, SqT K H a xs → xs[i]? = some x, fun i H => ∃ xs : List V, SqT K H a xs ∧ xs.length ≤ i⟩
theorem turn_enumT {P : Program} {w : World} {K : PySem.W.Frag} {elts : List Expr} {kk : Nat} {tpos : Pos} (a e it : Addr) (hea : a ≠ e) (hia : a ≠ it) :
    Turn P w K (.Tuple elts kk tpos) (IteT K a) [e, it] e (fun i h => (∃ old, IsEnum h e it ((i : Nat) : Int) old) ∧ h.IsTupleIter it a i ∧ e ≠ it) where
  mem := by simp
  obj := fun i h st b hb => by
    obtain ⟨⟨old, he⟩, ⟨o, ho, hc, hd⟩, _⟩ := st
    have e' : b = e ∨ b = it := by simpa using hb
    rcases e' with z | z
    · rw [z]; exact ⟨_, he, fun v q => nomatch q⟩
    · rw [z]; exact ⟨o, ho, fun v q => by rw [hd] at q; cases q⟩
  keep := fun i h h' st k => let ⟨⟨old, he⟩, hi, hne⟩ := st; ⟨⟨old, k e (by simp) _ he⟩, hi.at fun o q => k it (by simp) o q, hne⟩
  item := by
    intro X hP hw hK hc i pins s σ H E I hf st hg
    subst hP hw hK
    obtain ⟨⟨old, he⟩, hit, hne⟩ := st
    obtain ⟨xs, x, hq, hx⟩ := hg
    obtain ⟨its, rv, p, hz⟩ := I.tuple hq
    obtain ⟨u, hu, ru⟩ := rv.get hx
    have hel : e < s.heap.objs.size := Heap.lt_size he
    have hil : it < s.heap.objs.size := by obtain ⟨_, q, _⟩ := hit; exact Heap.lt_size q
    have hlt : i < its.toArray.size := by
      have := (List.getElem?_eq_some_iff.mp hu).1
      simpa using this
    refine wpAny_pyNext_enum_itemD (Draws.tuple (A := X.A.in1) (I.ok.hd hc) it a hia its.toArray) he ⟨hit, p⟩ hlt hne (by simp; exact ⟨hne, Ne.symm hea⟩) fun x' h' tk hx' ho hst' hT hsz hk => ?_
    obtain ⟨hit', p'⟩ := hst'
    have ex : x' = u := by
      have h1 : its.toArray[i]? = some u := by simpa using hu
      rw [hx'] at h1
      exact Option.some.inj h1
    subst ex
    refine ⟨_, rfl, wpAny_letOwnedTupleGo_enum (s := { s with heap := h', toks := tk + 1 }) ho fun h'' he' sb => ?_⟩
    have hT2 : h''.get? s.heap.objs.size = some { cls := .type "tuple", data := .seq #[.int i tk, x'] } := (sb.2 _ (Nat.ne_of_gt hel)).trans hT
    have new : ObjOk X.prog X.w (upd H s.heap.objs.size (.tup [.int (i : Nat), x])) h'' s.heap.objs.size (.tup [.int (i : Nat), x]) :=
      ⟨by show 2 ≤ sizeLine; decide, [.int i tk, x'], .cons ⟨_, rfl⟩ (.cons ru .nil), ⟨_, hT2, rfl, _, rfl⟩⟩
    have I1 : Inv X pins σ (upd H s.heap.objs.size (.tup [.int (i : Nat), x])) { s with heap := h'', toks := tk + 1 } :=
      I.turnedNew (t' := tk + 1) (ch := [e, it]) (fun b ob hb q => (sb.2 b (fun z => hb (by simp [z]))).trans (hk b ob (fun z => hb (by simp [z])) (fun z => hb (by simp [z])) q)) hf (Nat.le_refl _) new
    refine ⟨.ref s.heap.objs.size, _, I1, rfl, ⟨_, x, rfl, I.hok.fresh (Nat.le_refl _), rfl, fun ys hy => by rw [I.tuple_inj hy hq]; exact hx⟩, ⟨⟨x', ?_⟩, hit'.at fun o q => (sb.2 it (Ne.symm hne)).trans q, hne⟩, fun b hb => ?_⟩
    · have e1 : ((i + 1 : Nat) : Int) = (i : Int) + 1 := by omega
      rw [e1]; exact he'
    · have hb' : b < s.heap.objs.size := by
        have e' : b = e ∨ b = it := by simpa using hb
        rcases e' with z | z
        · rw [z]; exact hel
        · rw [z]; exact hil
      rw [upd_ne (Nat.ne_of_lt hb')]
      exact (hf b hb).1
  done := by
    intro X hP hw hK hc i pins s σ H E I hf st hg
    subst hP hw hK
    obtain ⟨⟨old, he⟩, hit, hne⟩ := st
    obtain ⟨xs, hq, hx⟩ := hg
    obtain ⟨its, rv, p, hz⟩ := I.tuple hq
    obtain ⟨f0, f1, f2, f3, f4, f5⟩ := hf it (by simp)
    have hl := rv.length
    have D : Draws X.prog X.w X.A.in1 it [it, a] i (fun j v => its.toArray[j]? = some v) (fun j h => h.IsTupleIter it a j ∧ h.IsTuple a its.toArray ∧ i ≤ j) := {
      live := fun _ _ st => let ⟨o, ho, _⟩ := st.1; ⟨o, ho⟩
      frame := fun _ _ _ st hk => ⟨st.1.at fun o e => hk it (by simp) o e, st.2.1.at fun o e => hk a (by simp) o e, st.2.2⟩
      item := fun j s Q E hj st hQ => absurd hj (Nat.not_lt.mpr st.2.2)
      done := fun s Q E st hE => wpAny_nextOf_tuple_end (A := X.A.in1) (I.ok.hd hc) st.1 st.2.1 (by simp; omega) hE }
    exact wpAny_pyNext_enum_endD D he ⟨hit, p, Nat.le_refl _⟩ fun h' eb => ⟨rfl, I.turned (t' := s.toks) (fun b o hb q => eb b o hb q) f0 f1 f3 f4 f5⟩
  self := fun A i s Q E st h => let ⟨⟨_, he⟩, _⟩ := st; wpAny_pyIter_enum he h
def iEnumT (K : PySem.W.Frag) (ta : TA) : TI := fun σ H R => ta σ H fun vs H1 => ∃ a xs, vs = [.ref a] ∧ ((SqL K H1 a xs ∧ R (Ite K a) H1) ∨ (SqT K H1 a xs ∧ R (IteT K a) H1))
theorem pi_enumA {X : Cx} {e : Expr} {ta : TA} {p pos tpos : Pos} {elts : List Expr} {kk : Nat} (hg : Gl X "enumerate") (hm : X.mg "enumerate" = none) (ha : PA X [e] ta) (hs : starEach [e] X.env = [(false, eval e X.env)] := by rfl) :
    PI X (.Tuple elts kk tpos) (.Call (.Name "enumerate" p) [e] [] pos) (iEnumT X.K ta) := by
  refine ⟨fun pins s σ H R I h => ?_⟩
  refine Call_ (ld_blt I hg hm boot_enumerate (PyProof.Rows.callWith_type1 (thn (ha.run pos pins s σ H _ I h) fun us s1 ⟨vs, H1, I1, r1, q1⟩ => ?_) hs rfl))
  obtain ⟨a, xs, ex, q1⟩ := q1
  subst ex
  cases r1 with
  | cons r rr =>
    cases rr
    cases r
    have fresh : ∀ b ∈ [s1.heap.objs.size + 1, s1.heap.objs.size], FpOk X pins H1 b := fun b hb => by
      have e' : b = s1.heap.objs.size + 1 ∨ b = s1.heap.objs.size := by simpa using hb
      have hle : s1.heap.objs.size ≤ b := by
        rcases e' with z | z
        · rw [z]; exact Nat.le_add_right _ _
        · rw [z]; exact Nat.le_refl _
      exact I1.fpOk hle (I1.hok.fresh hle)
    rcases q1 with ⟨hq, q⟩ | ⟨hq, q⟩
    · obtain ⟨its, rv, p', hz⟩ := I1.list hq
      refine call_enumerate_list p'.isList fun h' he hit hsz hk => wpAny_pyIter_enum he ?_
      have I2 : Inv X pins σ H1 { s1 with heap := h' } := I1.kept (t' := s1.toks) hk
      exact ⟨s1.heap.objs.size + 1, [s1.heap.objs.size + 1, s1.heap.objs.size], _, _, H1, rfl, I2, turn_enum a (s1.heap.objs.size + 1) s1.heap.objs.size, ⟨⟨.none, he⟩, hit, Nat.succ_ne_self _⟩, fresh, q⟩
    · obtain ⟨its, rv, p', hz⟩ := I1.tuple hq
      obtain ⟨o1, ho1, _⟩ := id p'
      have hlt := Heap.lt_size ho1
      refine call_enumV (begins_tuple a its.toArray) p' fun h' he hit hsz hk => wpAny_pyIter_enum he ?_
      have I2 : Inv X pins σ H1 { s1 with heap := h' } := I1.kept (t' := s1.toks) hk
      exact ⟨s1.heap.objs.size + 1, [s1.heap.objs.size + 1, s1.heap.objs.size], _, _, H1, rfl, I2, turn_enumT a (s1.heap.objs.size + 1) s1.heap.objs.size (Nat.ne_of_lt (Nat.lt_succ_of_lt hlt)) (Nat.ne_of_lt hlt), ⟨⟨.none, he⟩, ⟨_, hit, rfl, rfl⟩, Nat.succ_ne_self _⟩, fresh, q⟩
section
variable {X : Cx} {p q : Bool} {e a b c : Expr} {es : List Expr} {f g h : Ee} {n m : En} {pos : Pos} {K : PySem.W.Frag} {F : Fm} {r : Env} {σ : L2.St} {Hi H Hi' H' : Hp}
theorem walks_enumT {a : Addr} {ds : List D} (h : ∀ Hi1 H1, Sm Hi Hi1 → Sm Hi1 H1 → (p = false → Sm H H1) → ∃ xs, SqT K H1 a xs ∧ Rps K Hi1 ds xs) : Walks K p Hi H (IteT K a) (enumD 0 ds) := fun Hi1 H1 s1 s2 s3 => by
  obtain ⟨xs, hx, q⟩ := h Hi1 H1 s1 s2 s3
  refine ⟨⟨xs, hx, by rw [enumD_len, q.length]; exact Nat.le_refl _⟩, fun i d e => ?_⟩
  rw [enumD_get] at e
  obtain ⟨d1, e1, rfl⟩ := Option.map_eq_some_iff.mp e
  obtain ⟨v, hv, rv⟩ := q.get e1
  refine ⟨⟨xs, v, hx, hv⟩, fun v' H2 y => ?_⟩
  obtain ⟨T, x, rfl, hT, rfl, y⟩ := y
  have := y xs hx
  rw [hv] at this
  cases this
  rw [Nat.zero_add]
  exact ⟨_, Ext.tup s2 hT, tup_new s2 hT (.cons (.int _) (.cons rv .nil))⟩
/-- enumerate of a list or a tuple -/
theorem gi_enumA {px tpos : Pos} {elts : List Expr} {kk : Nat} (hg : Gl X "enumerate") (hm : X.mg "enumerate" = none) (ha : GE X p a f) (he : starEach [a] X.env = (false, eval a X.env) :: starEach [] X.env := by rfl) (hs : starEach [a] X.env = [(false, eval a X.env)] := by rfl) :
    GI X p (.Tuple elts kk tpos) (.Call (.Name "enumerate" px) [a] [] pos) (iEnumA f) := fun W tk =>
  pi_imp (pi_enumA hg hm (pa_cons (ha W tk) pa_nil he) hs) fun σ H Rr ⟨F, ρ, Hi, R, h⟩ => by
    refine ⟨F, ρ, Hi, R, (Po.bind h).imp fun x Hi1 H1 _ e1 k v rv => ?_⟩
    have k := k e1
    cases x with
    | lst ds =>
      have k := k Hi1 H1 (Ext.refl e1.sub)
      rcases rv with rv | ⟨ep, a, xs, ds', rfl, e2, ha, q⟩
      · cases rv with
        | lst ha q =>
          exact ⟨_, _, rfl, .inl ⟨SqL.of (e1.sub.lst ha), k _ (walks_enum fun Hi2 H2 s1 s2 _ => ⟨_, SqL.of (s2.lst (s1.lst ha)), q.same s1⟩)⟩⟩
      · cases e2
        exact ⟨_, _, rfl, .inl ⟨SqL.of ha, k _ (walks_enum fun Hi2 H2 s1 s2 s3 => ⟨_, SqL.of ((s3 ep).lst ha), q.same s1⟩)⟩⟩
    | tup ds =>
      have k := k Hi1 H1 (Ext.refl e1.sub)
      obtain ⟨a, xs, rfl, hi, ha, q⟩ := rv.tup e1.sub
      exact ⟨_, _, rfl, .inr ⟨SqT.of ha, k _ (walks_enumT fun Hi2 H2 s1 s2 _ => ⟨_, SqT.of (s2.tup (s1.tup hi)), q.same s1⟩)⟩⟩
    | _ => exact k.elim
theorem ne_isB : NoEx2 gIsB := fun x y c e => by cases x <;> cases y <;> cases e
theorem o_isB : Op2 K p q rIsB gIsB := fun x y z v u Hi H Q e s rv ru w => by
  cases x <;> cases y <;> first | (cases e; done) | skip
  rename_i i j
  cases e
  exact ⟨i, j, rv.bl, ru.bl, w _ Hi H (Ext.refl s) (.bl _)⟩
theorem ge_isB (hm : behindInMarks .Is b = false) (ha : GE X true a f) (hb : GE X true b g) : GE X p (.Compare a [.Is] [b] pos) (op2 gIsB f g) := ge_cmp op_isBl o_isB ne_isB hm ha hb
theorem gt_isB (hm : behindInMarks .Is b = false) (ha : GE X true a f) (hb : GE X true b g) : GT X (.Compare a [.Is] [b] pos) (tBl (op2 gIsB f g)) := gt_cmp op_isBl o_isB ne_isB hm ha hb
theorem zipD_get : ∀ (ds es : List D) (i : Nat), (zipD ds es)[i]? = match ds[i]?, es[i]? with
    | some d, some e => some (D.tup [d, e])
    | _, _ => none
  | [], _, _ => by simp [zipD]
  | d :: r, [], i => by
    simp only [zipD]
    cases (d :: r)[i]? <;> simp
  | d :: r, e :: s, 0 => rfl
  | d :: r, e :: s, i + 1 => by
    show (zipD r s)[i]? = _
    rw [zipD_get r s i]
    rfl
theorem zipD_len : ∀ (ds es : List D), (zipD ds es).length = min ds.length es.length
  | [], es => by simp [zipD]
  | d :: r, [] => by simp [zipD]
  | d :: r, e :: s => by show (zipD r s).length + 1 = _; rw [zipD_len r s]; simp
theorem walks_zip {a b : Addr} {ds es : List D} (h : ∀ Hi1 H1, Sm Hi Hi1 → Sm Hi1 H1 → (p = false → Sm H H1) → ∃ xs ys, SqL K H1 a xs ∧ SqL K H1 b ys ∧ Rps K Hi1 ds xs ∧ Rps K Hi1 es ys) : Walks K p Hi H (Itz K a b) (zipD ds es) := fun Hi1 H1 s1 s2 s3 => by
  obtain ⟨xs, ys, hx, hy, q, q2⟩ := h Hi1 H1 s1 s2 s3
  refine ⟨⟨xs, ys, hx, hy, by rw [zipD_len, q.length, q2.length]; omega⟩, fun i d e => ?_⟩
  rw [zipD_get] at e
  split at e
  · rename_i d1 d2 e1 e2
    cases e
    obtain ⟨v, hv, rv⟩ := q.get e1
    obtain ⟨u, hu, ru⟩ := q2.get e2
    refine ⟨⟨xs, ys, v, u, hx, hy, hv, hu⟩, fun v' H2 y => ?_⟩
    obtain ⟨T, x, y', rfl, hT, rfl, y1, y2⟩ := y
    have y1 := y1 xs hx
    have y2 := y2 ys hy
    rw [hv] at y1
    rw [hu] at y2
    cases y1
    cases y2
    exact ⟨_, Ext.tup s2 hT, tup_new s2 hT (.cons rv (.cons ru .nil))⟩
  · cases e
theorem walks_zipT {a b : Addr} {ds es : List D} (h : ∀ Hi1 H1, Sm Hi Hi1 → Sm Hi1 H1 → (p = false → Sm H H1) → ∃ xs ys, SqT K H1 a xs ∧ SqT K H1 b ys ∧ Rps K Hi1 ds xs ∧ Rps K Hi1 es ys) : Walks K p Hi H (RZ.ItzT K a b) (zipD ds es) := fun Hi1 H1 s1 s2 s3 => by
  obtain ⟨xs, ys, hx, hy, q, q2⟩ := h Hi1 H1 s1 s2 s3
  refine ⟨⟨xs, ys, hx, hy, by rw [zipD_len, q.length, q2.length]; omega⟩, fun i d e => ?_⟩
  rw [zipD_get] at e
  split at e
  · rename_i d1 d2 e1 e2
    cases e
    obtain ⟨v, hv, rv⟩ := q.get e1
    obtain ⟨u, hu, ru⟩ := q2.get e2
    refine ⟨⟨xs, ys, v, u, hx, hy, hv, hu⟩, fun v' H2 y => ?_⟩
    obtain ⟨T, x, y', rfl, hT, rfl, y1, y2⟩ := y
    have y1 := y1 xs hx
    have y2 := y2 ys hy
    rw [hv] at y1
    rw [hu] at y2
    cases y1
    cases y2
    exact ⟨_, Ext.tup s2 hT, tup_new s2 hT (.cons rv (.cons ru .nil))⟩
  · cases e
/-- zip of two tuples -/
theorem gi_zipA {px tpos : Pos} {elts : List Expr} {kk : Nat} (hg : Gl X "zip") (hm : X.mg "zip" = none) (ha : GE X true a f) (hb : GE X true b g) (he : starEach [a, b] X.env = (false, eval a X.env) :: starEach [b] X.env := by rfl) (he2 : starEach [b] X.env = (false, eval b X.env) :: starEach [] X.env := by rfl)
    (hpl : (backTo pos (starEach [b] X.env)).any (·.1) = false := by rfl) :
    GI X p (.Tuple elts kk tpos) (.Call (.Name "zip" px) [a, b] [] pos) (iZipA f g) := fun W tk =>
  pi_imp (RZ.pi_zipA hg hm (pa_cons (ha W tk) (pa_cons (hb W tk) pa_nil he2) he) he hpl) fun σ H Rr ⟨F, ρ, Hi, R, h⟩ => by
    refine ⟨F, ρ, Hi, R, (Po.bind h).imp fun x Hi1 H1 _ e1 k v rv => ?_⟩
    refine ⟨F, ρ, Hi1, R.ext e1, (Po.bind (k e1)).imp fun y Hi2 H2 _ e2 k u ru => ?_⟩
    have k := k e2
    have rv := rv.ext e2
    cases x with
    | lst ds =>
      cases y with
      | lst es =>
        have k := k Hi2 H2 (Ext.refl e2.sub)
        cases rv.rp with
        | lst ha q =>
          cases ru.rp with
          | lst hb q2 => exact ⟨_, _, _, _, rfl, .inl ⟨SqL.of (e2.sub.lst ha), SqL.of (e2.sub.lst hb), k _ (walks_zip fun Hi3 H3 s1 s2 _ => ⟨_, _, SqL.of (s2.lst (s1.lst ha)), SqL.of (s2.lst (s1.lst hb)), q.same s1, q2.same s1⟩)⟩⟩
      | _ => exact k.elim
    | tup ds =>
      cases y with
      | tup es =>
        have k := k Hi2 H2 (Ext.refl e2.sub)
        obtain ⟨a, xs, rfl, hi, ha, q⟩ := rv.tup e2.sub
        obtain ⟨b, ys, rfl, hi2, hb, q2⟩ := ru.tup e2.sub
        exact ⟨_, _, _, _, rfl, .inr ⟨SqT.of ha, SqT.of hb, k _ (walks_zipT fun Hi3 H3 s1 s2 _ => ⟨_, _, SqT.of (s2.tup (s1.tup hi)), SqT.of (s2.tup (s1.tup hi2)), q.same s1, q2.same s1⟩)⟩⟩
      | _ => exact k.elim
    | _ => exact k.elim
end
end GM

/-! GMr: try by a list of classes; what has no mirror. -/
namespace GM
open PySem PySem.Spec PyProof.Rows L2
variable [Tb]
section
variable {X : Cx} {p q : Bool} {e a b c tg iter elt : Expr} {es : List Expr} {f g h : Ee} {n m src : En} {pos : Pos} {K : PySem.W.Frag} {F : Fm} {r : Env} {σ : L2.St} {Hi H Hi' H' : Hp} {st : Stmt} {sts : List Stmt}
/-- what has no mirror: nothing is promised -/
theorem gs_bad : GS X st (fun _ => .bad) := fun W tk => ⟨fun pins s σ H D I ⟨F, r, Hi, R, h⟩ => h.elim⟩
theorem gss_bad : GSs X sts (fun _ => .bad) := fun W tk => ⟨fun pins s σ H D I ⟨F, r, Hi, R, h⟩ => h.elim⟩
theorem ge_bad : GE X p e (fun _ => .bad) := fun W tk => ⟨fun pins s σ H Q I ⟨F, r, Hi, R, h⟩ => h.elim⟩
theorem gn_bad : GN X e (fun _ => .bad) := fun W tk => ⟨fun pins s σ H Q I ⟨F, r, Hi, R, h⟩ => h.elim⟩
/-! ### the clause by a list of classes: none = not caught, some bs = what isinstance tells -/
theorem lookup_mem {β : Type} {c : String} {v : β} : ∀ {L : List (String × β)}, L.lookup c = some v → (c, v) ∈ L
  | (k, w) :: L, h => by
    rw [List.lookup_cons] at h
    cases e : c == k with
    | true =>
      rw [e] at h
      have : w = v := by simpa using h
      subst this
      rw [show c = k from by simpa using e]
      exact List.mem_cons_self
    | false => rw [e] at h; exact List.mem_cons_of_mem _ (lookup_mem h)
/-- one class: its facts -/
structure TC (X : Cx) (cv : Value) (c : String) (o : Option (List Bool)) : Prop where
  ex : ∀ u, clsOf X c u → PySem.W.exmOne X.K u cv = some o.isSome
def TLok (X : Cx) (cv : Value) (L : TL) : Prop := ∀ p ∈ L, TC X cv p.1 p.2
theorem tl_nil {cv : Value} : TLok X cv [] := fun p h => by cases h
theorem tl_cons {cv : Value} {c : String} {C : Addr} {o : Option (List Bool)} {L : TL} (E : ExC X.K X.mg c C) (h : PySem.W.exmOne X.K (.ref C) cv = some o.isSome) (t : TLok X cv L) : TLok X cv ((c, o) :: L) := fun p hp => by
  rcases List.mem_cons.mp hp with e | hp
  · subst e
    refine ⟨fun u hu => ?_⟩
    have : X.mg (Str.ofString c) = some u := hu
    rw [E.gC] at this
    cases this
    exact h
  · exact t p hp
theorem hex_of {cv : Value} {L : TL} (h : TLok X cv L) : ∀ c u k, csL L c = some k → clsOf X c u → PySem.W.exmOne X.K u cv = some k := fun c u k hk hu => by
  unfold csL at hk
  obtain ⟨o, ho, rfl⟩ := Option.map_eq_some_iff.mp hk
  exact (h _ (lookup_mem ho)).ex u hu
/-- the suite's reading -/
def tsL (X : Cx) (L : TL) (t : List Bool → Addr → TS) : Addr → Value → Option Addr → TS := fun a u d Z σ H => ∃ c bs, (c, some bs) ∈ L ∧ clsOf X c u ∧ d = none ∧ t bs a Z σ H
def SUok (X : Cx) (L : TL) (suite : List Stmt) (t : List Bool → Addr → TS) : Prop := ∀ c bs, (c, some bs) ∈ L → ∀ (a : Addr) (oe : Obj) (u : Value) (pn : List (Addr × Obj)), clsOf X c u → Zc u none oe → (∃ vs, oe.data = .fields vs) → PSs (X.suite a ((a, oe) :: pn)) suite (t bs a)
theorem sl_nil {suite : List Stmt} {t : List Bool → Addr → TS} : SUok X [] suite t := fun c bs h => by cases h
theorem sl_none {c : String} {L : TL} {suite : List Stmt} {t : List Bool → Addr → TS} (h : SUok X L suite t) : SUok X ((c, none) :: L) suite t := fun c' bs hm => by
  rcases List.mem_cons.mp hm with e | hm
  · cases e
  · exact h c' bs hm
theorem sl_cons {c : String} {C : Addr} {bs : List Bool} {L : TL} {suite : List Stmt} {t : List Bool → Addr → TS} (E : ExC X.K X.mg c C)
    (h1 : ∀ (a : Addr) (oe : Obj) (pn : List (Addr × Obj)), Zc (.ref C) none oe → (∃ vs, oe.data = .fields vs) → PSs (X.suite a ((a, oe) :: pn)) suite (t bs a)) (h : SUok X L suite t) : SUok X ((c, some bs) :: L) suite t := fun c' bs' hm => by
  rcases List.mem_cons.mp hm with e | hm
  · cases e
    intro a oe u pn hu hz hf
    have : X.mg (Str.ofString c) = some u := hu
    rw [E.gC] at this
    cases this
    exact h1 a oe pn hz hf
  · exact h c' bs' hm
theorem hsu_of {L : TL} {suite : List Stmt} {t : List Bool → Addr → TS} (h : SUok X L suite t) : ∀ (a : Addr) (oe : Obj) (u : Value) (d : Option Addr) (pn : List (Addr × Obj)), Zc u d oe → (∃ vs, oe.data = .fields vs) → PSs (X.suite a ((a, oe) :: pn)) suite (tsL X L t a u d) :=
  fun a oe u d pn hz hf => ⟨fun pins s σ H D I h' => by
    obtain ⟨c, bs, hm, hu, hd, ht⟩ := h'
    subst hd
    exact (h c bs hm a oe u pn hu hz hf).run pins s σ H D I ht⟩
theorem hts_of {L : TL} {t : List Bool → Addr → TS} : ∀ c u a Z σ H, csL L c = some true → clsOf X c u → t (bsL L c) a Z σ H → tsL X L t a u none Z σ H := fun c u a Z σ H hk hu ht => by
  unfold csL at hk
  obtain ⟨o, ho, hb⟩ := Option.map_eq_some_iff.mp hk
  cases o with
  | none => cases hb
  | some bs =>
    unfold bsL at ht
    rw [ho] at ht
    exact ⟨c, bs, lookup_mem ho, hu, rfl, ht⟩
variable {body suite : List Stmt} {b₀ : Stmt} {x y : Str} {np pos' : Pos} {cv : Value} {fb : Es}
theorem gs_tL {i : Nat} {L : TL} (hs : X.stack = X.env :: X.outer) (hf : X.env.frame = some X.env.locals) (hN : X.N.Nodup) (hi : X.N[i]? = some y) (hln : X.env.kindOf y = some .local) (hc : Names X x cv)
    (hb : ∀ (pn : List (Addr × Obj)) (xe : Value → Shared → Prop), PassesOwn (model X.prog X.w) X.A X.env xe → GSs (X.tr pn xe) body fb) (hL : TLok X cv L) (hS : SUok X L (b₀ :: suite) (tSuL i)) :
    GS X (.Try body [.ExceptHandler (some (.Name x np)) (some y) (b₀ :: suite) pos'] [] [] pos) (sTry (csL L) fb (suL i (bsL L))) :=
  gs_tryL hs hf hN hi hln hc hb (hex_of hL) (tsL X L (tSuL i)) (hsu_of hS) (fun c u a Z σ H hk hu ht => hts_of c u a Z σ H hk hu ht)
theorem gs_tB {i : Nat} {L : TL} (hs : X.stack = X.env :: X.outer) (hf : X.env.frame = some X.env.locals) (hN : X.N.Nodup) (hi : X.N[i]? = some y) (hln : X.env.kindOf y = some .local) (hc : Names X x cv)
    (hb : ∀ (pn : List (Addr × Obj)) (xe : Value → Shared → Prop), PassesOwn (model X.prog X.w) X.A X.env xe → GSs (X.tr pn xe) body fb) (hL : TLok X cv L) (hS : SUok X L (b₀ :: suite) (fun bs => tSuB i (bs.headD false))) :
    GS X (.Try body [.ExceptHandler (some (.Name x np)) (some y) (b₀ :: suite) pos'] [] [] pos) (sTry (csL L) fb (suB i fun c => (bsL L c).headD false)) :=
  gs_tryB hs hf hN hi hln hc hb (hex_of hL) (tsL X L (fun bs => tSuB i (bs.headD false))) (hsu_of hS) (fun c u a Z σ H hk hu ht => hts_of (t := fun bs => tSuB i (bs.headD false)) c u a Z σ H hk hu ht)
theorem gs_tO {L : TL} {f0 : Es} (hs : X.stack = X.env :: X.outer) (hf : X.env.frame = some X.env.locals) (hc : Names X x cv)
    (hb : ∀ (pn : List (Addr × Obj)) (xe : Value → Shared → Prop), PassesOwn (model X.prog X.w) X.A X.env xe → GSs (X.tr pn xe) body fb) (hL : TLok X cv L)
    (hsu : ∀ (a : Addr) (oe : Obj) (pn : List (Addr × Obj)), GSs (X.suite a ((a, oe) :: pn)) (b₀ :: suite) f0) :
    GS X (.Try body [.ExceptHandler (some (.Name x np)) none (b₀ :: suite) pos'] [] [] pos) (sTry (csL L) fb fun _ => f0) :=
  gs_tryO hs hf hc hb (hex_of hL) (fun _ => rfl) hsu
theorem cls_ok {K : PySem.W.Frag} {T : Addr} (h2 : PySem.W.isClsIn K T = true) (h3 : PySem.W.typeIn K (.ref T) = some (.type "type")) : ((PySem.W.clsIn K T).isSome && PySem.W.typeIn K (.ref T) == some (.type "type")) = true := by
  have h2' : (PySem.W.clsIn K T).isSome = true := h2
  rw [h2', h3] <;> rfl
theorem exm_of {K : PySem.W.Frag} {C T : Addr} {b : Bool} (h1 : PySem.W.subIn K (.ref T) (.type "BaseException") = some true) (h2 : PySem.W.isClsIn K T = true) (h3 : PySem.W.typeIn K (.ref T) = some (.type "type")) (h4 : PySem.W.subIn K (.ref C) (.ref T) = some b) :
    PySem.W.exmOne K (.ref C) (.ref T) = some b := by
  have e1 : (PySem.W.subIn K (.ref T) (.type "BaseException") == some true) = true := by rw [h1] <;> rfl
  show (if (PySem.W.subIn K (.ref T) (.type "BaseException") == some true) = true then (if ((PySem.W.clsIn K T).isSome && PySem.W.typeIn K (.ref T) == some (.type "type")) = true then PySem.W.subIn K (.ref C) (.ref T) else none) else none) = some b
  rw [if_pos e1, if_pos (cls_ok h2 h3)]
  exact h4
theorem kit_ref {K : PySem.W.Frag} {C T : Addr} {b : Bool} (h2 : PySem.W.isClsIn K T = true) (h3 : PySem.W.typeIn K (.ref T) = some (.type "type")) (h5 : PySem.W.subIn K (.ref C) (.ref C) = some true) (h4 : PySem.W.subIn K (.ref C) (.ref T) = some b) :
    PySem.W.kitOne K (.ref C) (.ref T) = some b := by
  by_cases h : C = T
  · subst h
    rw [h5] at h4
    cases h4
    exact if_pos (by simp)
  · refine (if_neg (by simpa using h)).trans ?_
    show (if ((PySem.W.clsIn K T).isSome && PySem.W.typeIn K (.ref T) == some (.type "type")) = true then PySem.W.subIn K (.ref C) (.ref T) else none) = some b
    rw [if_pos (cls_ok h2 h3)]
    exact h4
theorem kit_typ {K : PySem.W.Frag} {C : Addr} {T : String} {b : Bool} (h1 : PySem.W.kitMeta T = true) (h4 : PySem.W.subIn K (.ref C) (.type T) = some b) : PySem.W.kitOne K (.ref C) (.type T) = some b := by
  refine (if_neg (by simp)).trans ?_
  show (if PySem.W.kitMeta T = true then PySem.W.subIn K (.ref C) (.type T) else none) = some b
  rw [if_pos h1]
  exact h4
/-- isinstance(e, T), T of the program; a built-in one -/
theorem gx_p {i : Nat} {a D CT : Addr} {oe : Obj} {pn : List (Addr × Obj)} {n T : Str} {d : Bool} {px p1 p2 : Pos} (hm : X.mg "isinstance" = none) (gT : X.mg T = some (.ref CT)) (hk : PySem.W.kitOne X.K (.ref D) (.ref CT) = some d) (C : ExcC X.K D) (hz : Zc (.ref D) none oe) (hf : ∃ vs, oe.data = .fields vs)
    (hN : X.N[i]? = some n) (hv : Vis X.env.scope n) (hg : Gl (X.suite a ((a, oe) :: pn)) "isinstance") (hgT : Gl (X.suite a ((a, oe) :: pn)) T) (hTd : (T == ("__debug__" : Str)) = false := by decide) (hd : (n == ("__debug__" : Str)) = false := by decide) (hcd : (n == ("__classdict__" : Str)) = false := by decide)
    (he : starEach [.Name n p1, .Name T p2] (X.suite a ((a, oe) :: pn)).env = (false, eval (.Name n p1) (X.suite a ((a, oe) :: pn)).env) :: starEach [.Name T p2] (X.suite a ((a, oe) :: pn)).env := by rfl) (he2 : starEach [.Name T p2] (X.suite a ((a, oe) :: pn)).env = (false, eval (.Name T p2) (X.suite a ((a, oe) :: pn)).env) :: starEach [] (X.suite a ((a, oe) :: pn)).env := by rfl)
    (hpl : (backTo pos (starEach [.Name T p2] (X.suite a ((a, oe) :: pn)).env)).any (·.1) = false := by rfl) : GX (X.suite a ((a, oe) :: pn)) i a (.Call (.Name "isinstance" px) [.Name n p1, .Name T p2] [] pos) d :=
  gx_isi (cv := .ref CT) (u := .ref CT) C hz hf hg hm hN hv (pe_glob (X := X.suite a ((a, oe) :: pn)) (v := .ref CT) (u := .ref CT) hgT gT rfl hTd) (fun w h => h) hk hd hcd he he2 hpl
theorem gx_b {i : Nat} {a D : Addr} {oe : Obj} {pn : List (Addr × Obj)} {n T : Str} {TT : String} {d : Bool} {px p1 p2 : Pos} (hm : X.mg "isinstance" = none) (gT : X.mg T = none) (hk : PySem.W.kitOne X.K (.ref D) (.type TT) = some d) (C : ExcC X.K D) (hz : Zc (.ref D) none oe) (hf : ∃ vs, oe.data = .fields vs)
    (hN : X.N[i]? = some n) (hv : Vis X.env.scope n) (hg : Gl (X.suite a ((a, oe) :: pn)) "isinstance") (hgT : Gl (X.suite a ((a, oe) :: pn)) T) (hvT : bootBuiltins T = some (.type TT)) (hTn : T ≠ "__name__" := by decide) (hTd : (T == ("__debug__" : Str)) = false := by decide) (hd : (n == ("__debug__" : Str)) = false := by decide) (hcd : (n == ("__classdict__" : Str)) = false := by decide)
    (he : starEach [.Name n p1, .Name T p2] (X.suite a ((a, oe) :: pn)).env = (false, eval (.Name n p1) (X.suite a ((a, oe) :: pn)).env) :: starEach [.Name T p2] (X.suite a ((a, oe) :: pn)).env := by rfl) (he2 : starEach [.Name T p2] (X.suite a ((a, oe) :: pn)).env = (false, eval (.Name T p2) (X.suite a ((a, oe) :: pn)).env) :: starEach [] (X.suite a ((a, oe) :: pn)).env := by rfl)
    (hpl : (backTo pos (starEach [.Name T p2] (X.suite a ((a, oe) :: pn)).env)).any (·.1) = false := by rfl) : GX (X.suite a ((a, oe) :: pn)) i a (.Call (.Name "isinstance" px) [.Name n p1, .Name T p2] [] pos) d :=
  gx_isi (cv := .ty TT) (u := .type TT) C hz hf hg hm hN hv (pe_bltn (X := X.suite a ((a, oe) :: pn)) (v := .ty TT) hgT gT hvT rfl hTn hTd) (fun w h => h) hk hd hcd he he2 hpl
end
end GM

/-! GMs: a tuple the other way round. -/
namespace GM
open PySem PySem.Spec PyProof.Rows L2
variable [Tb]
section
variable {prog : Program} {w : World} {A : Around} {E : Value → Shared → Prop} {s : Shared}
theorem sliceApplied_rev {sl : Addr} {vl vu vs : Value} {n : Nat} {Q : Int × Int × Nat → Shared → Prop} (hs : s.heap.IsSliceOf sl vl vu vs) (pl : IsPart vl none) (pu : IsPart vu none) (ps : IsPart vs (some (-1)))
    (h : Q ((n : Int) - 1, -1, n) s) : wpAny (model prog w) A (Builtin.Slice.sliceApplied (.ref sl) (pure (n : Int))) Q E s := by
  obtain ⟨os, hos, hcs, hds⟩ := id hs
  unfold Builtin.Slice.sliceApplied Builtin.Slice.sliceFields
  refine wpAny_bind (wpAny_bind (wpAny_field hos hds (x := vl) rfl (wpAny_bind (wpAny_field hos hds (x := vu) rfl (wpAny_bind (wpAny_field hos hds (x := vs) rfl (wpAny_pure ?_)))))))
  refine wpAny_bind (HT.slicePart_ ps ?_)
  show wpAny _ _ (if ((-1 : Int) == 0) = true then _ else _) _ _ s
  rw [if_neg (by decide)]
  refine wpAny_bind (HT.slicePart_ pl (wpAny_bind (HT.slicePart_ pu (wpAny_bind (wpAny_pure ?_)))))
  show wpAny _ _ (pure ((n : Int) - 1, (-1 : Int), Builtin.Slice.slicePlaces ((n : Int) - 1) (-1) (-1))) _ _ s
  have e : Builtin.Slice.slicePlaces ((n : Int) - 1) (-1) (-1) = n := by
    unfold Builtin.Slice.slicePlaces
    rw [if_neg (by omega)]
    by_cases hn : n = 0
    · subst hn; rfl
    · rw [if_pos (by omega), show (-(-1) : Int) = 1 by omega, Int.ediv_one]
      omega
  rw [e]
  exact wpAny_pure h
theorem pick_rev (xs : Array Value) : ((List.range xs.size).filterMap fun (m : Nat) => xs[((xs.size : Int) - 1 + (m : Int) * (-1)).toNat]?).toArray = xs.toList.reverse.toArray := by
  have e : (List.range xs.size).filterMap (fun (m : Nat) => xs[((xs.size : Int) - 1 + (m : Int) * (-1)).toNat]?) = ((List.range xs.size).map fun k => xs.size - 1 - k).filterMap (xs[·]?) := by
    rw [List.filterMap_map]
    have ef : (fun (m : Nat) => xs[((xs.size : Int) - 1 + (m : Int) * (-1)).toNat]?) = ((fun x => xs[x]?) ∘ fun k => xs.size - 1 - k) := by
      funext m
      show xs[((xs.size : Int) - 1 + (m : Int) * (-1)).toNat]? = xs[xs.size - 1 - m]?
      have : ((xs.size : Int) - 1 + (m : Int) * (-1)).toNat = xs.size - 1 - m := by omega
      rw [this]
    rw [ef]
  rw [e, PySem.W.krv_range, List.filterMap_reverse, PySem.W.krv_all]
theorem getItem_tuple_rev {t sl : Addr} {items : Array Value} {vl vu vs : Value} {Q : Value → Shared → Prop} (ht : IsTup s.heap t items) (hs : s.heap.IsSliceOf sl vl vu vs) (pl : IsPart vl none) (pu : IsPart vu none) (ps : IsPart vs (some (-1)))
    (h : Q (.ref s.heap.objs.size) { s with heap := s.heap.push { cls := .type "tuple", data := .seq items.toList.reverse.toArray } })
    (hsz : items.size ≤ sizeLine) : wpAny (model prog w) A (getItem (.ref t) (.ref sl)) Q E s := by
  have htake : sizeOk (.seq items.toList.reverse.toArray) := by
    show items.toList.reverse.toArray.size ≤ sizeLine
    rw [List.size_toArray, List.length_reverse, Array.length_toList]
    exact hsz
  obtain ⟨os, hos, hcs, hds⟩ := id hs
  have hTs : s.TypeIs (.ref sl) "slice" := ⟨os, hos, hcs⟩
  unfold getItem
  try with_reducible refine wpAny_holding ?_
  first | refine wpAny_bind (wpAny_pure ?_) | skip
  refine wpAny_bind (wpAny_sequenceKey ht.typeIs (by decide) ?_)
  refine wpAny_bind (wpAny_callSpecial?_slot (name := Str.ofString "__getitem__") ht.typeIs PyProof.Rows.slot_tuple_getitem
    (wpAny_call_entry PyProof.Rows.slot_tuple_getitem ht.typeIs entry_tuple_getitem ?_ (args_tuple_getitem _ _)))
  show wpAny _ _ (Builtin.Tuple.tupleItemsOf (.ref t) >>= _) _ _ s
  refine wpAny_bind (tupleItemsOf_ ht ?_)
  refine wpAny_bind (wpAny_typeOf hTs ?_)
  rw [if_pos (by decide)]
  refine wpAny_bind (sliceApplied_rev hs pl pu ps ?_)
  have hno : ¬ ((((items.size : Int) - 1) == 0 && (-1 : Int) == 1 && items.size == items.size) = true) := by
    rw [show ((-1 : Int) == 1) = false from rfl, Bool.and_false, Bool.false_and]
    exact Bool.false_ne_true
  show wpAny _ _ (if (((items.size : Int) - 1) == 0 && (-1 : Int) == 1 && items.size == items.size) = true then _ else _) _ _ s
  rw [if_neg hno, pick_rev]
  first
    | exact wpAny_bind (m := Builtin.Tuple.tupleExact _) (wpAny_newObj_type (wpAny_pure ⟨_, rfl, wpAny_pure h⟩) htake)
    | exact wpAny_bind (m := Builtin.Tuple.tupleExact _) (wpAny_newObj_type (wpAny_bind (wpAny_pure (wpAny_pure ⟨_, rfl, wpAny_pure h⟩))) htake)
    | exact wpAny_bind (wpAny_bind (m := Builtin.Tuple.tupleExact _) (wpAny_newObj_type (wpAny_pure (wpAny_pure ⟨_, rfl, wpAny_pure h⟩)) htake))
    | exact wpAny_bind (wpAny_bind (m := Builtin.Tuple.tupleExact _) (wpAny_newObj_type (wpAny_pure ⟨_, rfl, wpAny_pure h⟩) htake))
end
def tRevT (K : PySem.W.Frag) (te : TE) : TE := fun σ H Q => te σ H fun x H1 => ∃ a xs, x = .ref a ∧ SqT K H1 a xs ∧ ∀ p, H1 p = none → Q (.ref p) (upd H1 p (.tup xs.reverse))
section
variable {X : Cx} {p q : Bool} {e a b c : Expr} {es : List Expr} {f g h : Ee} {n m : En} {pos : Pos} {K : PySem.W.Frag} {F : Fm} {r : Env} {σ : L2.St} {Hi H Hi' H' : Hp}
theorem pe_revT {e : Expr} {te : TE} {k : Nat} {p1 p2 p3 pos : Pos} (he : PE X e te) : PE X (.Subscript e (.Slice none none (some (.UnaryOp .USub (.Constant (.int 1) k p1) p2)) p3) pos) (tRevT X.K te) := by
  refine ⟨fun pins s σ H Q I h => ?_⟩
  refine Subscript_ (thn (he.run pins s σ H _ I h) fun v s1 ⟨x, H1, I1, r1, q1⟩ => ?_)
  obtain ⟨a, xs, ex, hx, q⟩ := q1
  subst ex
  cases r1
  have hst : PO X (some (.UnaryOp .USub (.Constant (.int 1) k p1) p2)) (tPart (tUn (rU fun i => .int (-i)) (tC (.int 1)))) := po_some (pe_un un_neg pe_int)
  refine wpAny_Slice (thn (po_none.run pins s1 σ H1 (fun o H2 => o = none ∧ H2 = H1) I1 ⟨rfl, rfl⟩) fun vl s2 ⟨l, H2, I2, pl, el, e2⟩ => ?_)
  subst el e2
  refine thn (po_none.run pins s2 σ H2 (fun o H3 => o = none ∧ H3 = H2) I2 ⟨rfl, rfl⟩) fun vu s3 ⟨u, H3, I3, pu, eu, e3⟩ => ?_
  subst eu e3
  refine thn (hst.run pins s3 σ H3 (fun o H4 => o = some (-1) ∧ H4 = H3) I3 ⟨1, rfl, -1, rfl, rfl, rfl⟩) fun vs s4 ⟨o, H4, I4, ps, eo, e4⟩ => ?_
  subst eo e4
  have I5 : Inv X pins σ H4 { s4 with heap := s4.heap.push { cls := .type "slice", data := .fields #[vl, vu, vs] } } := I4.kept (t' := s4.toks) fun b ob q => Heap.get?_push_of_some _ q
  obtain ⟨its, r, ht, hz⟩ := I5.tuple hx
  have hlen := r.length
  show wpAny (model X.prog X.w) X.A (subscriptTail e (.Slice none none (some (.UnaryOp .USub (.Constant (.int 1) k p1) p2)) p3) (.ref a) (.ref s4.heap.objs.size)) (EP X pins σ Q) X.xe { s4 with heap := s4.heap.push { cls := .type "slice", data := .fields #[vl, vu, vs] } }
  refine tail_any (ops := [.ref a, .ref s4.heap.objs.size]) ht.typeIs (PyProof.Rows.slot_tuple_getitem.lookup) ?_ (by with_unfolding_all rfl)
  refine getItem_tuple_rev ht (Heap.IsSliceOf.new _ vl vu vs) pl pu ps ?_ (by rw [List.size_toArray]; omega)
  refine ⟨.ref _, _, I5.laid (t' := s4.toks) (o := .tup xs.reverse) (fun b ob q => Heap.get?_push_of_some _ q) (Nat.le_refl _) ?_, rfl, q _ (I5.hok.fresh (Nat.le_refl _))⟩
  exact ⟨by rw [List.length_reverse]; exact hz, _, r.reverse, IsTup.new _ _⟩
theorem rps_rev {ds : List D} {vs : List V} (h : Rps K H ds vs) : Rps K H ds.reverse vs.reverse := by
  have : ∀ {ds : List D} {vs : List V}, Rps K H ds vs → Rps K H ds.reverse vs.reverse := by
    intro ds
    induction ds with
    | nil => intro vs h; cases h; exact .nil
    | cons d ds ih =>
      intro vs h
      cases h with
      | cons r t =>
        rw [List.reverse_cons, List.reverse_cons]
        exact (ih t).append (.cons r .nil)
  exact this h
theorem ge_revT {k : Nat} {p1 p2 p3 : Pos} (ha : GE X true a f) : GE X p (.Subscript a (.Slice none none (some (.UnaryOp .USub (.Constant (.int 1) k p1) p2)) p3) pos) (op1 gRev f) := fun W tk =>
  pe_imp (pe_revT (ha W tk)) fun σ H Q ⟨F, ρ, Hi, R, h⟩ => by
    refine ⟨F, ρ, Hi, R, (Po.bind h).imp fun x Hi1 H1 _ e1 k v rv => ?_⟩
    have k := k e1
    cases x with
    | tup ds =>
      obtain ⟨a, xs, rfl, hi, ha, q⟩ := rv.tup e1.sub
      exact ⟨a, xs, rfl, SqT.of ha, fun p hp => k _ _ (Ext.tup e1.sub hp) _ (.inl (tup_new e1.sub hp (rps_rev q)))⟩
    | _ => exact k.elim
end
end GM

/-! GMt: texts: join, str. -/
namespace GM
open PySem PySem.Spec PyProof.Rows L2
variable [Tb]
section
variable {X : Cx} {p q : Bool} {e a b c : Expr} {es : List Expr} {f g h : Ee} {n m : En} {pos : Pos} {K : PySem.W.Frag} {F : Fm} {r : Env} {σ : L2.St} {Hi H Hi' H' : Hp}
theorem asStrs_rps : ∀ {ds : List D} {vs : List V} {ys : List Str}, asStrs ds = some ys → Rps K Hi ds vs → vs = ys.map V.str
  | [], _, _, e, .nil => by cases e; rfl
  | .str i :: ds, _, ns, e, .cons r t => by
    unfold asStrs at e
    cases h : asStrs ds with
    | none => rw [h] at e; cases e
    | some is =>
      rw [h] at e
      cases e
      cases r
      rw [asStrs_rps h t]
      rfl
  | .non :: _, _, _, e, _ => by cases e
  | .bl _ :: _, _, _, e, _ => by cases e
  | .int _ :: _, _, _, e, _ => by cases e
  | .tup _ :: _, _, _, e, _ => by cases e
  | .lst _ :: _, _, _, e, _ => by cases e
  | .scr _ :: _, _, _, e, _ => by cases e
  | .fn _ _ :: _, _, _, e, _ => by cases e
theorem ge_join {apos : Pos} (ha : GE X true a f) (hb : GE X false b g) (hs : starEach [b] X.env = [(false, eval b X.env)] := by rfl) (hbase : attributeBase a "join" X.env (eval a X.env) = eval a X.env := by rfl) (hline : (apos.endLine == pos.line) = true := by rfl) :
    GE X p (.Call (.Attribute a "join" apos) [b] [] pos) (eJoin f g) := fun W tk =>
  pe_imp (pe_join (ha W tk) (hb W tk) hs hbase hline) fun σ H Q ⟨F, ρ, Hi, R, h⟩ => by
    refine ⟨F, ρ, Hi, R, (Po.bind h).imp fun x Hi1 H1 _ e1 k v rv => ?_⟩
    have k := k e1
    cases x with
    | str s =>
      have ev : v = .str s := rv.str
      subst ev
      refine ⟨⟨s, rfl⟩, F, ρ, Hi1, R.ext e1, (Po.bind k).imp fun y Hi2 H2 _ e2 k u ru => ?_⟩
      have k := k e2
      cases y with
      | lst ds =>
        obtain ⟨p, xs, rfl, hx, qs⟩ := ru.lst e2.sub
        unfold gJoin at k
        simp only at k
        split at k
        · rename_i ys hy
          split at k
          · rename_i hl
            rw [asStrs_rps hy qs] at hx
            refine ⟨s, p, ys, rfl, rfl, .inl (SqL.of hx), Nat.le_trans hl (by unfold lim; omega), ?_⟩
            have e := TL.join_eq s ys
            rw [e]
            exact k Hi2 H2 (Ext.refl e2.sub) _ (.inl (.str _))
          · exact k.elim
        · exact k.elim
      | _ => exact k.elim
    | _ => exact k.elim
/-! ### str of an int -/
theorem ne_strI : NoEx1 gStrI := fun x c e => by
  unfold gStrI at e
  split at e
  · split at e <;> cases e
  · cases e
theorem o_strI : Op1 K false (fun v H Q => ∃ i, [v] = [.int i] ∧ i.natAbs.log2 < 1920 ∧ Q (.str (toString i)) H) gStrI := fun x z v Hi H Q e s rv w => by
  cases x with
  | int i =>
    unfold gStrI at e
    simp only at e
    split at e
    · rename_i hb
      cases e
      refine ⟨i, by rw [rv.int], ?_, w _ Hi H (Ext.refl s) (.str _)⟩
      have h1 : i.natAbs < 2 ^ 20 := by omega
      by_cases h0 : i.natAbs = 0
      · rw [h0]; decide
      · have := (Nat.log2_lt h0).mpr h1
        omega
    · cases e
  | _ => cases e
theorem ge_strI {px : Pos} (hg : Gl X "str") (hm : X.mg "str" = none) (ha : GE X false a f) (he : starEach [a] X.env = (false, eval a X.env) :: starEach [] X.env := by rfl) (hpl : (backTo pos (starEach [] X.env)).any (·.1) = false := by rfl) :
    GE X p (.Call (.Name "str" px) [a] [] pos) (op1 gStrI f) := ge_ty1 call_str_int o_strI ne_strI hg hm (by decide +kernel) ha (by decide) (by decide) he hpl
end
end GM

/-! GMu: sorted of a list of tuples of ints, of any number and length. -/
namespace SrtO
open PySem PyProof.Rows Srt GM
theorem swo_lexL {α : Type} (k : α → List Int) : Swo fun v u => lexL (k v) (k u) := ⟨fun x y h => lexL_asym _ _ h, fun x y z h1 h2 => lexL_tr _ _ _ h1 h2⟩
section
variable {prog : Program} {w : World} {A : Around} {E : Value → Shared → Prop} {s : Shared}
theorem lex_intsL {b : Bool} {Q : Bool → Shared → Prop} {fin : Bool} {xs ys : List Value} {ns ms : List Int} (i : Nat) (hx : IntsAre xs ns) (hy : IntsAre ys ms) (hf : ns = ms.take ns.length ∨ ms = ns.take ms.length → fin = lexL ns ms)
    (h : Q (lexL ns ms) s) : PySem.W.KatLex prog w A b fin Q (xs.zip ys) i s := by
  induction hx generalizing ys ms i with
  | nil =>
    have e := hf (.inl rfl)
    rw [← e] at h
    exact PySem.W.kat_nil h
  | @cons p t xs ns hx ih =>
    cases hy with
    | nil =>
      have e := hf (.inr rfl)
      rw [← e] at h
      exact PySem.W.kat_nil h
    | @cons q u ys ms hy =>
      show PySem.W.KatLex prog w A b fin Q ((Value.int p t, Value.int q u) :: xs.zip ys) i s
      refine PySem.W.kat_cons (wpAny_eqBool_int ?_)
      by_cases e : p = q
      · subst e
        rw [beq_self_eq_true]
        have d : lexL (p :: ns) (p :: ms) = lexL ns ms := if_pos rfl
        rw [d] at h hf
        refine PySem.W.kat_yes (ih (i + 1) hy (fun z => hf ?_) h)
        rcases z with z | z
        · exact .inl (by rw [List.length_cons, List.take_succ_cons, ← z])
        · exact .inr (by rw [List.length_cons, List.take_succ_cons, ← z])
      · rw [show (p == q) = false from beq_eq_false_iff_ne.mpr e]
        have d : lexL (p :: ns) (q :: ms) = decide (p < q) := if_neg e
        rw [d] at h
        exact PySem.W.kat_no (TS.oneLt_ints _ h)
theorem lexL_short : ∀ {ns ms : List Int}, (ns = ms.take ns.length ∨ ms = ns.take ms.length) → decide (ns.length < ms.length) = lexL ns ms
  | [], [], _ => rfl
  | [], m :: ms, _ => rfl
  | n :: ns, [], _ => rfl
  | n :: ns, m :: ms, h => by
    have e : n = m ∧ (ns = ms.take ns.length ∨ ms = ns.take ms.length) := by
      rcases h with h | h
      · rw [List.length_cons, List.take_succ_cons] at h
        exact ⟨(List.cons.inj h).1, .inl (List.cons.inj h).2⟩
      · rw [List.length_cons, List.take_succ_cons] at h
        exact ⟨(List.cons.inj h).1.symm, .inr (List.cons.inj h).2⟩
    obtain ⟨rfl, e⟩ := e
    rw [show lexL (n :: ns) (n :: ms) = lexL ns ms from if_pos rfl, ← lexL_short e]
    exact decide_eq_decide.mpr (by simp)
/-- the value is a tuple of the ints that k tells, and there are some -/
def TupsL (h : Heap) (k : Value → List Int) (vs : List Value) : Prop := ∀ v ∈ vs, TS.TupInts h v (k v) ∧ k v ≠ []
theorem firstsL {h : Heap} {k : Value → List Int} : ∀ {vs : List Value}, TupsL h k vs → ∃ fs, PySem.W.KatTups h vs fs ∧ fs.length = vs.length ∧ ∀ f, f ∈ fs → ∃ n t, f = Value.int n t
  | [], _ => ⟨[], PySem.W.KatTups.nil, rfl, fun f hf => by simp at hf⟩
  | v :: vs, x => by
    obtain ⟨fs, q, hl, hi⟩ := firstsL (vs := vs) fun u hu => x u (List.mem_cons_of_mem _ hu)
    obtain ⟨⟨a, xs, e, ⟨o, ho, hc, n, hdt⟩, i⟩, hn⟩ := x v List.mem_cons_self
    subst e
    obtain ⟨y, ys, e⟩ : ∃ y ys, xs.toList = y :: ys := by
      cases q : xs.toList with
      | nil =>
        rw [q] at i
        have l := i.length
        exact absurd (List.length_eq_zero_iff.mp (by simpa using l.symm)) hn
      | cons y ys => exact ⟨y, ys, rfl⟩
    obtain ⟨m, t, hy⟩ := i.all y (by rw [e]; exact List.mem_cons_self ..)
    refine ⟨y :: fs, PySem.W.KatTups.cons ho hc hdt ?_ q, by simp [hl], ?_⟩
    · have z := congrArg (fun l : List Value => l[0]?) e
      simpa using z
    · intro f hf
      rcases List.mem_cons.mp hf with rfl | hf
      · exact ⟨m, t, hy⟩
      · exact hi f hf
theorem tups_cmp {vs : List Value} {k : Value → List Int} (hp : TupsL s.heap k vs) : Cmp prog w A s (tuples' true) (fun p => p.1 ∈ vs) (lt2 fun v u => lexL (k v) (k u)) := by
  intro p q hm hm'
  obtain ⟨⟨a, xs, e1, ⟨o, ho, hc, n, hdt⟩, i⟩, _⟩ := hp _ hm
  obtain ⟨⟨a', ys, e2, ⟨o', ho', hc', n', hdt'⟩, i'⟩, _⟩ := hp _ hm'
  show wpAny (model prog w) A (keyLt' (tuples' true) p.1 q.1) (fun r s' => s' = s ∧ r = lexL (k p.1) (k q.1)) (fun _ _ => False) s
  generalize hk : k p.1 = ns at i ⊢
  generalize hk' : k q.1 = ms at i' ⊢
  rw [e1, e2]
  refine PySem.W.kat_lt ho hdt ho' hdt' (lex_intsL 0 i i' (fun z => ?_) ⟨rfl, rfl⟩)
  have l1 := i.length
  have l2 := i'.length
  rw [Array.length_toList] at l1 l2
  rw [← lexL_short z, l1, l2]
theorem tups_sortableO {a : Addr} {vs : List Value} {k : Value → List Int} (h0 : 0 < vs.length) (hp : TupsL s.heap k vs) (ha : ∀ o, s.heap.get? a = some o → o.cls ≠ .type "tuple") : SortableO prog w A s a vs fun v u => lexL (k v) (k u) := by
  intro h' keep
  have hp' : TupsL h' k vs := fun v hm => ⟨(hp v hm).1.keeps fun b o e c => keep b o (fun z => by subst z; exact ha o e c) e, (hp v hm).2⟩
  obtain ⟨fs, h1, h2, h3⟩ := firstsL hp'
  refine ⟨tuples' true, fun Q E hq => ?_, tups_cmp hp'⟩
  refine PySem.W.kat_kind (T := .type "int") h1 (by omega) (fun f hm => ?_) (by rfl) ?_
  · obtain ⟨x, t, rfl⟩ := h3 f hm
    exact PySem.W.Looks.now
  · have e : (Value.type "int" != Value.type "tuple") = true := by first | decide +kernel | rfl | decide
    rw [e]
    exact hq
end
end SrtO

namespace L2
open PySem PySem.Spec PyProof.Rows GM
/-- sorted(xs), tuples of ints, any number of them -/
def rSortedTL (K : PySem.W.Frag) : List V → Hp → VK → Prop := fun vs H Q => ∃ (a : Addr) (ys : List V) (k : V → List Int), vs = [V.ref a] ∧ SqL K H a ys ∧ (∀ y ∈ ys, ∃ t, y = V.ref t ∧ H t = some (.tup ((k y).map V.int)) ∧ k y ≠ []) ∧
  ∀ (zs : List V) (p : Addr), zs.Perm ys → zs.Pairwise (fun x y => lexL (k y) (k x) = false) → H p = none → Q (.ref p) (upd H p (.lst zs))
section
variable {X : Cx}
theorem cr_sortedTL : CallR X (.builtin "sorted") (rSortedTL X.K) := by
  intro pins s σ H vs us Q I r h
  obtain ⟨a, ys, k, rfl, hs, hx, q⟩ := h
  obtain ⟨its, rv, hl, hz⟩ := I.list hs
  rw [Vals.ref1 r]
  obtain ⟨e1, e2⟩ := refs_back rv fun x m => by
    obtain ⟨t, e, _⟩ := hx x m
    exact ⟨t, e⟩
  have hp : SrtO.TupsL s.heap (fun u => k (backV u)) its := fun v hv => by
    obtain ⟨t, rfl⟩ := e2 v hv
    have hm : V.ref t ∈ ys := by rw [e1]; exact List.mem_map.mpr ⟨_, hv, rfl⟩
    obtain ⟨t', e, ht, hn⟩ := hx _ hm
    cases e
    obtain ⟨its2, rv2, hT, _⟩ := I.tuple (SqT.of ht)
    exact ⟨⟨t, its2.toArray, rfl, hT, (by simpa using rv2.ints : IntsAre its2.toArray.toList (k (V.ref t)))⟩, hn⟩
  refine SrtO.sorted_ord (SrtO.swo_lexL fun u => k (backV u)) hl.isList (by rw [← rv.length]; exact hz) (fun h2 h₁ a ha kk => ?_) fun out h1 h2 => ?_
  · refine SrtO.tups_sortableO (s := { s with heap := h₁ }) (by omega) (fun v hm => ⟨(hp v hm).1.keeps fun b o e _ => (kk b o e).2, (hp v hm).2⟩) fun o e => ?_
    have e' : some o = some (seqObj "list" its.toArray 0) := e.symm.trans ha
    cases e'
    intro c
    exact absurd (Value.type.inj c) (by decide)
  · obtain ⟨ep, he'⟩ := PyProof.Rows.sortedAll_at s.heap its out.toArray
    have h3 : ∀ u ∈ out, ∃ a, u = Value.ref a := fun u hu => e2 u (h2.perm.mem_iff.mp hu)
    have hp : (out.map backV).Perm ys := by
      rw [e1]
      exact h2.perm.map backV
    have hlen : (out.map backV).length ≤ sizeLine := by
      rw [hp.length_eq]
      exact hz
    refine ⟨.ref _, upd H (s.heap.objs.size + 1) (.lst (out.map backV)), I.laid (t' := s.toks) (fun _ _ => PyProof.Rows.sortedAll_old) (Nat.le_succ _) ⟨hlen, out, ep, vals_back h3, he'⟩, rfl, q _ _ hp ?_ (I.hok.fresh (Nat.le_succ _))⟩
    exact List.pairwise_map.mpr h1
end
end L2

namespace GM
open PySem PySem.Spec PyProof.Rows L2
variable [Tb]
section
variable {X : Cx} {K : PySem.W.Frag} {a : Expr} {f : Ee} {pos : Pos}
/-- the ints of a value, by the heap -/
def vInts : V → Int
  | .int i => i
  | _ => 0
def tupsH (H : Hp) (v : V) : List Int := match v with
  | .ref t => (match H t with
    | some (.tup xs) => xs.map vInts
    | _ => [])
  | _ => []
theorem vInts_ints : ∀ ns : List Int, (ns.map V.int).map vInts = ns
  | [] => rfl
  | n :: r => congrArg (n :: ·) (vInts_ints r)
theorem asTups_rps {Hi : Hp} : ∀ {ds : List D} {l : List (List Int)} {vs : List V}, asTups ds = some l → Rps K Hi ds vs → (∀ y ∈ vs, ∃ t, y = V.ref t ∧ Hi t = some (.tup ((tupsH Hi y).map V.int)) ∧ tupsH Hi y ≠ []) ∧ vs.map (tupsH Hi) = l
  | [], l, _, e, .nil => by cases e; exact ⟨fun y h => absurd h (by simp), rfl⟩
  | .tup es :: r, l, _, e, .cons (v := v) q t => by
    unfold asTups at e
    cases h : asInts es with
    | none => rw [h] at e; cases e
    | some ns =>
      rw [h] at e
      have e : (if ns.isEmpty then none else (asTups r).map fun l => ns :: l) = some l := e
      split at e
      · cases e
      · rename_i hne
        cases h2 : asTups r with
        | none => rw [h2] at e; cases e
        | some l' =>
          rw [h2] at e
          cases e
          obtain ⟨k1, k2⟩ := asTups_rps h2 t
          cases q with
          | @tup b _ _ ha q =>
            rw [asInts_rps h q] at ha
            have hk : tupsH Hi (V.ref b) = ns := by
              unfold tupsH
              simp only [ha]
              exact vInts_ints ns
            refine ⟨fun y hy => ?_, by rw [List.map_cons, hk, k2]⟩
            rcases List.mem_cons.mp hy with rfl | hy
            · exact ⟨_, rfl, by rw [hk]; exact ha, by rw [hk]; intro z; rw [z] at hne; exact hne rfl⟩
            · exact k1 y hy
  | .non :: _, _, _, e, _ => by cases e
  | .bl _ :: _, _, _, e, _ => by cases e
  | .str _ :: _, _, _, e, _ => by cases e
  | .int _ :: _, _, _, e, _ => by cases e
  | .lst _ :: _, _, _, e, _ => by cases e
  | .scr _ :: _, _, _, e, _ => by cases e
  | .fn _ _ :: _, _, _, e, _ => by cases e
theorem rps_tups {Hi : Hp} : ∀ {vs : List V}, (∀ y ∈ vs, ∃ t, y = V.ref t ∧ Hi t = some (.tup ((tupsH Hi y).map V.int)) ∧ tupsH Hi y ≠ []) → Rps K Hi (dTups (vs.map (tupsH Hi))) vs
  | [], _ => .nil
  | v :: vs, h => by
    obtain ⟨t, rfl, ht, _⟩ := h v List.mem_cons_self
    exact .cons (.tup ht (Rps.ofInts _)) (rps_tups fun y hy => h y (List.mem_cons_of_mem _ hy))
theorem ne_sortT : NoExN bSortT := fun x c e => by
  cases x with
  | lst ds =>
    unfold bSortT at e
    simp only at e
    split at e
    · split at e <;> cases e
    · cases e
  | _ => cases e
theorem o_sortT : OpN K (fun v H Q => rSortedTL K [v] H Q) bSortT := fun x zs v Hi H Q e s rv w => by
  cases x with
  | lst ds =>
    obtain ⟨a, xs, rfl, ha, q⟩ := rv.lst s
    unfold bSortT at e
    simp only at e
    split at e
    · rename_i l hs
      split at e
      · cases e
        obtain ⟨k1, k2⟩ := asTups_rps hs q
        refine ⟨a, xs, tupsH Hi, rfl, SqL.of ha, fun y hy => ?_, fun us p pm st hp => ?_⟩
        · obtain ⟨t, e, ht, hn⟩ := k1 y hy
          exact ⟨t, e, s.tup ht, hn⟩
        · have es : us.map (tupsH Hi) = sortL l := sortL_is (by rw [← k2]; exact pm.map _) (List.pairwise_map.mpr st)
          have w := w p
          rw [← es] at w
          exact w _ Hi _ (Ext.lst s hp) hp upd_same (none_hi s hp) (rps_tups fun y hy => k1 y (pm.mem_iff.mp hy))
      · cases e
    · cases e
  | _ => cases e
theorem gn_sortedT {px : Pos} (hg : Gl X "sorted") (hm : X.mg "sorted" = none) (ha : GE X false a f) (he : starEach [a] X.env = (false, eval a X.env) :: starEach [] X.env := by rfl) (hpl : (backTo pos (starEach [] X.env)).any (·.1) = false := by rfl) :
    GN X (.Call (.Name "sorted" px) [a] [] pos) (nOp1 bSortT f) := gn_b1 cr_sortedTL o_sortT ne_sortT hg hm (by decide +kernel) ha (by decide) (by decide) he hpl
end
end GM

namespace GM
open PySem PySem.Spec PyProof.Rows L2
variable [Tb]
/-- a def of which nothing is asked -/
theorem fn_bad {P : Program} {w : World} {K : PySem.W.Frag} {mg : Str → Option Value} {base : Heap} {x qual : Str} {st : Stmt} {f : Addr} {fd : FuncData} {N ps : List Str} {k : Nat} (F : Fun K x qual st f fd) (S : FnScope N ps (defScope st)) :
    FnOk P w K mg base (L2.CX P w) (k + 1) f fd ps (spF K mg fun _ => .bad) := by
  refine F.okX S (fun vs H Q E h => ?_) (fun cdv A outer s H vs Q E hr h => ?_)
  · obtain ⟨tb, ds, q, h⟩ := h
    exact h.elim
  · obtain ⟨tb, ds, q, h⟩ := h
    exact h.elim
end GM

/-! GMv: function values: what is known of them is put into the heap for a call, and taken out of it. -/
namespace GM
open PySem PySem.Spec PyProof.Rows L2
variable [Tb]
section
variable {P : Program} {w : World} {K : PySem.W.Frag} {mg : Str → Option Value} {base : Heap} {H H' H0 : Hp} {h h' : Heap} {p : Addr → Bool}
/-- taken out; put in -/
def offH (p : Addr → Bool) (H : Hp) : Hp := fun a => if p a then none else H a
def onH (p : Addr → Bool) (H0 H : Hp) : Hp := fun a => if p a then H0 a else H a
theorem off_yes {a : Addr} (e : p a = true) : offH p H a = none := by unfold offH; rw [if_pos e]
theorem off_no {a : Addr} (e : p a = false) : offH p H a = H a := by unfold offH; rw [e]; rfl
theorem on_yes {a : Addr} (e : p a = true) : onH p H0 H a = H0 a := by unfold onH; rw [if_pos e]
theorem on_no {a : Addr} (e : p a = false) : onH p H0 H a = H a := by unfold onH; rw [e]; rfl
/-- there are frozen objects alone -/
def Frzs (p : Addr → Bool) (H : Hp) : Prop := ∀ a, p a = true → ∃ oc, H a = some (FrzO a oc)
theorem off_some {a : Addr} {o : HO} (e : offH p H a = some o) : p a = false ∧ H a = some o := by
  cases h : p a with
  | true => rw [off_yes h] at e; cases e
  | false => rw [off_no h] at e; exact ⟨rfl, e⟩
theorem off_of {a : Addr} {o : HO} (F : Frzs p H) (e : H a = some o) (n : ∀ oc, o ≠ FrzO a oc) : offH p H a = some o := by
  cases h : p a with
  | true =>
    obtain ⟨oc, z⟩ := F a h
    rw [e] at z
    exact absurd (Option.some.inj z) (n oc)
  | false => rw [off_no h]; exact e
theorem HOk.off (F : Frzs p H) (k : HOk P w H h) : HOk P w (offH p H) h := fun a o e => by
  obtain ⟨_, e'⟩ := off_some e
  exact (k a o e').stay (fun _ _ _ q => q) (fun b q => off_of F q fun oc z => by unfold FrzO at z; cases z) fun b xs q => off_of F q fun oc z => by unfold FrzO at z; cases z
theorem frzO_ok {a : Addr} {oc : Obj} (e : h.get? a = some oc) : ObjOk P w H h a (FrzO a oc) := ⟨e, e, ⟨oc, e⟩, fun _ _ q st => st _ q⟩
theorem frzO_at {a : Addr} {oc : Obj} (k : HOk P w H h) (e : H a = some (FrzO a oc)) : h.get? a = some oc := (k a _ e).1
theorem HOk.on (F : Frzs p H0) (g : ∀ a oc, p a = true → H0 a = some (FrzO a oc) → h.get? a = some oc) (n : ∀ a, p a = true → H a = none) (k : HOk P w H h) : HOk P w (onH p H0 H) h := fun a o e => by
  have no : ∀ b u, H b = some u → p b = false := fun b u q => by
    cases z : p b with
    | true => rw [n b z] at q; cases q
    | false => rfl
  cases z : p a with
  | true =>
    rw [on_yes z] at e
    obtain ⟨oc, e2⟩ := F a z
    rw [e2] at e
    cases e
    exact frzO_ok (g a oc z e2)
  | false =>
    rw [on_no z] at e
    exact (k a o e).stay (fun _ _ _ q => q) (fun b q => by rw [on_no (no b _ q)]; exact q) fun b xs q => by rw [on_no (no b _ q)]; exact q
theorem not_p {b : Addr} {u : HO} (n : ∀ a, p a = true → H a = none) (q : H b = some u) : p b = false := by
  cases z : p b with
  | true => rw [n b z] at q; cases q
  | false => rfl
/-! ### run with less, told with more -/
theorem Un.less {fs : List Addr} (F : Frzs p H) (k : HOk P w H h) (u : Un fs [] (offH p H) H' h h') (hfs : ∀ b ∈ fs, p b = false) : Un fs [] H (onH p H H') h h' where
  keep := fun b o e n hb hx => u.keep b o e (by cases z : p b with
    | true => exact off_yes z
    | false => rw [off_no z]; exact n) hb hx
  slot := fun b o e n hb hx => u.slot b o e (by cases z : p b with
    | true => exact off_yes z
    | false => rw [off_no z]; exact n) hb hx
  free := fun b o e n hx => by
    cases z : p b with
    | true => rw [on_yes z]; exact n
    | false => rw [on_no z]; exact u.free b o e (by rw [off_no z]; exact n) hx
  there := u.there
  tups := fun b xs e => by
    have q := off_of F e fun oc z => by unfold FrzO at z; cases z
    rw [on_no (off_some q).1]
    exact u.tups b xs q
  frzs := fun b o v e => by
    cases z : p b with
    | true => rw [on_yes z]; exact e
    | false => rw [on_no z]; exact u.frzs b o v (by rw [off_no z]; exact e)
  tbls := fun b ps e => by
    have q := off_of F e fun oc z => by unfold FrzO at z; cases z
    rw [on_no (off_some q).1]
    exact u.tbls b ps q
theorem hok_less {fs : List Addr} (F : Frzs p H) (k : HOk P w H h) (u : Un fs [] (offH p H) H' h h') (hfs : ∀ b ∈ fs, p b = false) (k' : HOk P w H' h') : HOk P w (onH p H H') h' :=
  HOk.on F (fun a oc z e => u.keep a oc (frzO_at k e) (off_yes z) (fun hb => by rw [hfs a hb] at z; cases z) (by simp)) (fun a z => by
    obtain ⟨oc, e⟩ := F a z
    exact u.free a oc (frzO_at k e) (off_yes z) (by simp)) k'
theorem Env0.less {A : Around} {outer : List PySem.Env} {s : Shared} (F : Frzs p H) (e : Env0 P w K mg base A outer s H) : Env0 P w K mg base A outer s (offH p H) :=
  ⟨e.frames, e.mod, fun b o q => ⟨(e.bs b o q).1, by cases z : p b with
    | true => exact off_yes z
    | false => rw [off_no z]; exact (e.bs b o q).2⟩, e.bsz, e.funs, fun b hb => by cases z : p b with
    | true => exact off_yes z
    | false => rw [off_no z]; exact e.frf b hb, HOk.off F e.hok, e.bare⟩
theorem frz_nofs {A : Around} {outer : List PySem.Env} {s : Shared} (F : Frzs p H) (e : Env0 P w K mg base A outer s H) : ∀ b ∈ frs outer, p b = false := fun b hb => by
  cases z : p b with
  | false => rfl
  | true =>
    obtain ⟨oc, q⟩ := F b z
    rw [e.frf b hb] at q
    cases q
/-- a call's end, run with less -/
theorem CE.less {A : Around} {outer : List PySem.Env} {s s' : Shared} {Q Q' : VK} {u : Value} (F : Frzs p H) (e : Env0 P w K mg base A outer s H) (hQ : ∀ v H', (∀ a, p a = true → H' a = none) → Q v H' → Q' v (onH p H H')) (c : CE outer P w (offH p H) s Q u s') : CE outer P w H s Q' u s' := by
  obtain ⟨v, H', os, bare, un, hok, rv, q⟩ := c
  exact ⟨v, onH p H H', os, bare, Un.less F e.hok un (frz_nofs F e), hok_less F e.hok un (frz_nofs F e) hok, rv, hQ v H' (fun a z => let ⟨oc, q⟩ := F a z; un.free a oc (frzO_at e.hok q) (off_yes z) (by simp)) q⟩
/-! ### run with more, told with less -/
theorem Un.more {fs : List Addr} (F : Frzs p H0) (n : ∀ a, p a = true → H a = none) (k : HOk P w (onH p H0 H) h) (k' : HOk P w H' h') (u : Un fs [] (onH p H0 H) H' h h') : Un fs [] H (offH p H') h h' where
  keep := fun b o e nb hb hx => by
    cases z : p b with
    | false => exact u.keep b o e (by rw [on_no z]; exact nb) hb hx
    | true =>
      obtain ⟨oc, q⟩ := F b z
      have q1 : onH p H0 H b = some (FrzO b oc) := by rw [on_yes z]; exact q
      have := frzO_at k q1
      rw [e] at this
      cases this
      exact frzO_at k' (u.frzs b o _ q1)
  slot := fun b o e nb hb hx => by
    cases z : p b with
    | false => exact u.slot b o e (by rw [on_no z]; exact nb) hb hx
    | true =>
      obtain ⟨oc, q⟩ := F b z
      have q1 : onH p H0 H b = some (FrzO b oc) := by rw [on_yes z]; exact q
      have := frzO_at k q1
      rw [e] at this
      cases this
      exact ⟨o.slots, frzO_at k' (u.frzs b o _ q1)⟩
  free := fun b o e nb hx => by
    cases z : p b with
    | false => rw [off_no z]; exact u.free b o e (by rw [on_no z]; exact nb) hx
    | true => exact off_yes z
  there := u.there
  tups := fun b xs e => by
    have z := not_p n e
    rw [off_no z]; exact u.tups b xs (by rw [on_no z]; exact e)
  frzs := fun b o v e => by
    have z := not_p n e
    rw [off_no z]; exact u.frzs b o v (by rw [on_no z]; exact e)
  tbls := fun b ps e => by
    have z := not_p n e
    rw [off_no z]; exact u.tbls b ps (by rw [on_no z]; exact e)
theorem frz_kept {fs : List Addr} (F : Frzs p H0) (u : Un fs [] (onH p H0 H) H' h h') : Frzs p H' := fun a z => by
  obtain ⟨oc, q⟩ := F a z
  exact ⟨oc, u.frzs a oc _ (by rw [on_yes z]; exact q)⟩
theorem CE.more {outer : List PySem.Env} {s s' : Shared} {Q Q' : VK} {u : Value} (F : Frzs p H0) (n : ∀ a, p a = true → H a = none) (k : HOk P w (onH p H0 H) s.heap) (hQ : ∀ v H', Frzs p H' → Q v H' → Q' v (offH p H')) (c : CE outer P w (onH p H0 H) s Q u s') : CE outer P w H s Q' u s' := by
  obtain ⟨v, H', os, bare, un, hok, rv, q⟩ := c
  exact ⟨v, offH p H', os, bare, Un.more F n k hok un, HOk.off (frz_kept F un) hok, rv, hQ v H' (frz_kept F un) q⟩
theorem UB.more {fs : List Addr} {B : Heap} (F : Frzs p H0) (n : ∀ a, p a = true → H a = none) (k : HOk P w (onH p H0 H) h) (k' : HOk P w H' B) (u : UB fs (onH p H0 H) H' h B h') : UB fs H (offH p H') h B h' where
  keep := fun b o e nb hb => by
    cases z : p b with
    | false => exact u.keep b o e (by rw [on_no z]; exact nb) hb
    | true =>
      obtain ⟨oc, q⟩ := F b z
      have q1 : onH p H0 H b = some (FrzO b oc) := by rw [on_yes z]; exact q
      have := frzO_at k q1
      rw [e] at this
      cases this
      exact frzO_at k' (u.frzs b o _ q1)
  slot := u.slot
  free := fun b o e nb => by
    cases z : p b with
    | false => rw [off_no z]; exact u.free b o e (by rw [on_no z]; exact nb)
    | true => exact off_yes z
  there := u.there
  tups := fun b xs e => by
    have z := not_p n e
    rw [off_no z]; exact u.tups b xs (by rw [on_no z]; exact e)
  frzs := fun b o v e => by
    have z := not_p n e
    rw [off_no z]; exact u.frzs b o v (by rw [on_no z]; exact e)
  tbls := fun b ps e => by
    have z := not_p n e
    rw [off_no z]; exact u.tbls b ps (by rw [on_no z]; exact e)
theorem CX.more {outer : List PySem.Env} {s s' : Shared} {E E' : XK} {u : Value} (F : Frzs p H0) (n : ∀ a, p a = true → H a = none) (k : HOk P w (onH p H0 H) s.heap) (hE : ∀ cls d H', Frzs p H' → E cls d H' → E' cls d (offH p H')) (c : L2.CX P w outer (onH p H0 H) s E u s') : L2.CX P w outer H s E' u s' := by
  obtain ⟨a, B, H', cls, d, rfl, fl, hok, ub, na, os, ag, e⟩ := c
  have F' : Frzs p H' := fun a z => by
    obtain ⟨oc, q⟩ := F a z
    exact ⟨oc, ub.frzs a oc _ (by rw [on_yes z]; exact q)⟩
  exact ⟨a, B, offH p H', cls, d, rfl, fl, HOk.off F' hok, UB.more F n k hok ub, by unfold offH; split; rfl; exact na, os, ag, hE cls d H' F' e⟩
theorem Env0.more {A : Around} {outer : List PySem.Env} {s : Shared} (F : Frzs p H0) (n : ∀ a, p a = true → H a = none) (g : ∀ a oc, p a = true → H0 a = some (FrzO a oc) → s.heap.get? a = some oc) (hb : ∀ b o, base.get? b = some o → p b = false) (hf : ∀ b ∈ frs outer, p b = false)
    (e : Env0 P w K mg base A outer s H) : Env0 P w K mg base A outer s (onH p H0 H) :=
  ⟨e.frames, e.mod, fun b o q => ⟨(e.bs b o q).1, by rw [on_no (hb b o q)]; exact (e.bs b o q).2⟩, e.bsz, e.funs, fun b q => by rw [on_no (hf b q)]; exact e.frf b q, HOk.on F g n e.hok, e.bare⟩
end
/-! ### a call of a function value -/
structure LamOk (P : Program) (w : World) (K : PySem.W.Frag) (mg : Str → Option Value) (base : Heap) (k : Nat) (F : Nat → List D → Ro) : Prop where
  run : ∀ (A : Around) (outer : List PySem.Env) (s : Shared) (H : Hp) (t : Nat) (ds : List D) (f : Addr) (us : List Value) (vs : List V) (Q : VK) (E : XK), Room k A → Env0 P w K mg base A outer s H → Rp K H (.fn t ds) (.ref f) → Vals vs us →
    spF K mg (fun xs => F t (xs ++ ds)) vs H Q E → codeAny (model P w) A (.call (.ref f) ⟨us, []⟩) (CR (L2.CX P w) outer P w H s Q E) s
theorem Rp.fn_at {P : Program} {w : World} {K : PySem.W.Frag} {H : Hp} {h : Heap} {t : Nat} {ds : List D} {f : Addr} (r : Rp K H (.fn t ds) (.ref f)) (k : HOk P w H h) : PySem.W.FnAt f h := by
  cases r with
  | fn e C q c => exact ⟨_, _, _, _, frzO_at k e⟩
theorem Rp.fn_ref {K : PySem.W.Frag} {H : Hp} {t : Nat} {ds : List D} {v : V} (r : Rp K H (.fn t ds) v) : ∃ f, v = .ref f := by
  cases r with
  | fn e C q c => exact ⟨_, rfl⟩
section
variable {X : Cx} {p : Bool} {e : Expr} {es : List Expr} {n : En} {pos : Pos}
theorem ge_has {k i : Nat} {F : Nat → List D → Ro} {x : Str} {p' : Pos} (L : LamOk X.prog X.w X.K X.mg X.base k F) (hr : Room k X.A) (hN : X.N[i]? = some x) (hv : Vis X.env.scope x) (ha : GA X (e :: es) n) (hdb : (x == ("__debug__" : Str)) = false := by decide) (hcd : (x == ("__classdict__" : Str)) = false := by decide)
    (he : starEach (e :: es) X.env = (false, eval e X.env) :: starEach es X.env := by rfl) (hpl : (backTo pos (starEach es X.env)).any (·.1) = false := by rfl) : GE X p (.Call (.Name x p') (e :: es) [] pos) (eHas F i n) := fun W tk => by
  refine ⟨fun pins s σ H Q I h => ?_⟩
  obtain ⟨Fm, r, Hi, R, h⟩ := h
  unfold eHas at h
  split at h
  · rename_i t ds er
    obtain ⟨v, ev, rv⟩ := R.slot i _ er
    obtain ⟨f, rfl⟩ := rv.fn_ref
    have rH : Rp X.K H (.fn t ds) (.ref f) := rv.same R.sub
    refine wpAny_Call_Name_kw (thn ((pe_var (pos := p') (i := i) hN hv hdb hcd).run pins s σ H (fun v H1 => v = .ref f ∧ H1 = H) I ⟨.ref f, ev, rfl, rfl⟩) fun u s1 ⟨v, H1, I1, r1, q1⟩ => ?_)
    obtain ⟨ev', eH⟩ := q1
    subst ev'
    rw [eH] at I1
    obtain rfl : u = Value.ref f := r1
    have ht := (ha W tk).run pos pins s1 σ H (fun vs H2 => Rp X.K H2 (.fn t ds) (.ref f) ∧ spF X.K X.mg (fun xs => F t (xs ++ ds)) vs H2 Q (WE W σ)) I1 ⟨Fm, r, Hi, R, (Po.bind h).imp fun xs Hi1 H1 _ e1 k vs rvs =>
      ⟨rH.same e1.h, calls_E (W := W) (σ := σ) (p := p) (fun _ _ w => w) e1.sub (R.ext e1).tabs rvs (k e1)⟩⟩
    refine PySem.W.callWith_F (first := []) (rH.fn_at I1.hok) (thn ht fun us s2 ⟨vs, H2, I2, rr, q⟩ => ⟨q.1.fn_at I2.hok, ?_⟩) he hpl
    show wpAny _ _ (call (.ref f) us) _ _ _
    refine wpAny_call (codeAny_mono (L.run X.A X.stack s2 H2 t ds f us vs Q (WE W σ) hr I2.env0 q.1 rr q.2) fun r s' hq => ?_)
    cases r with
    | error e => exact passAt tk σ pins H2 s2 e s' I2 hq
    | ok fl =>
      cases fl with
      | ret u => exact I2.after hq
      | next => exact False.elim hq
      | brk => exact False.elim hq
      | cont => exact False.elim hq
  · exact h.elim
end
/-! ### a lambda is made and handed to a def -/
section
variable {X : Cx} {pins : List (Addr × Obj)} {σ : L2.St} {H : Hp} {s : Shared}
theorem far_of {a : Addr} (I : Inv X pins σ H s) (h : s.heap.objs.size ≤ a) : a ∉ frs X.stack ∧ X.base.get? a = none := by
  refine ⟨fun z => ?_, ?_⟩
  · rcases List.mem_cons.mp (I.stkSub _ z) with e | e
    · have h1 := I.lt
      rw [← e] at h1
      exact Nat.lt_irrefl _ (Nat.lt_of_lt_of_le h1 h)
    · exact I.nofs h e
  · cases e : X.base.get? a with
    | none => rfl
    | some o => exact absurd (Nat.lt_of_lt_of_le (Heap.lt_size (I.bk a o e)) h) (Nat.lt_irrefl _)
theorem lam_mk {c P : Addr} {params : Arguments} {body : Expr} {scope : Scope} {pos : Pos} {E : Value → Shared → Prop} {Q : Value → Shared → Prop} (I : Inv X pins σ H s) (TB : LamX.TabB X.base X.mg c P) (hcode : X.env.code = .ref c)
    (hm : (P, X.env.qual ++ "<lambda>") ∈ Tb.tb) (hu : ∀ p ∈ Tb.tb, p.1 = P → p.2 = X.env.qual ++ "<lambda>") (hT : Tbs H) (hdef : defaultsOf params X.env = ([], [])) (hfree : ∀ y ∈ scope.names, y.2 = .free → ∃ c, X.env.cells.lookup y.1 = some c)
    (h : ∀ (f c' : Addr) (pm ctv : Value) (H1 : Hp) (s' : Shared), Inv X pins σ H1 s' → Sm H H1 → Tbs H1 →
      s'.heap.get? f = some (PySem.W.kla_obj "<lambda>" (X.env.qual ++ "<lambda>") params body scope (cloFrom X.env.cells scope.names []) pm c' ctv) → H1 f = none → f ∉ frs X.stack → X.base.get? f = none → H1 c' = some (LamX.CodeO c' (X.env.qual ++ "<lambda>")) → Q (.ref f) s') :
    wpAny (model X.prog X.w) X.A (eval (.Lambda params body scope pos) X.env) Q E s := by
  have hT0 := hT
  obtain ⟨ps, hP, ht, ha⟩ := hT _ hm
  have hP' : s.heap.get? P = some { cls := .none, data := .fields ps } := I.hok P _ hP
  have bP : s.heap.BuiltinsAt X.mg P := TB.bm.keeps I.bk
  refine PySem.W.kla_eval hdef ?_
  cases hc : codeAmong pos ps.toList with
  | some cv =>
    obtain ⟨c', e, hco⟩ := ha pos cv hc
    subst e
    refine PySem.W.kla_makeFunctionHit (mg := X.mg) (c := c) (P := P) (ps := ps) (closure_ok hfree) I.ok.glob (I.mod.glob.keeps I.bk) hcode (TB.code.keeps I.bk) hP' ht hc bP fun ctv h' tk hx hsz => ?_
    obtain ⟨f1, f2⟩ := far_of I hsz
    exact h h'.objs.size c' _ ctv H _ (I.kept fun b o e => Heap.get?_push_of_some _ (hx b o e)) (Sm.refl H) hT0 (Heap.get?_push_size _ rfl) (I.hok.fresh hsz) f1 f2 hco
  | none =>
    refine PySem.W.kla_makeFunction (mg := X.mg) (c := c) (P := P) (ps := ps) (closure_ok hfree) I.ok.glob (I.mod.glob.keeps I.bk) hcode (TB.code.keeps I.bk) hP' ht hc TB.gP bP fun c' ctv h' tk hx hge hlt hrec htb => ?_
    obtain ⟨c2, oc, vs, t, e2, hoc, hd, hv⟩ := hrec
    cases e2
    have hsz : s.heap.objs.size ≤ h'.objs.size := Nat.le_trans hge (Nat.le_of_lt hlt)
    obtain ⟨f1, f2⟩ := far_of I hsz
    have nC : H c' = none := I.hok.fresh hge
    have nPc : P ≠ c' := ne_of_none hP nC
    have I1 := LamX.inv_table (q := X.env.qual ++ "<lambda>") (t' := tk) (more := #[rawInt pos.line, rawInt pos.col, .ref c']) (h' := h'.push (PySem.W.kla_obj "<lambda>" (X.env.qual ++ "<lambda>") params body scope (cloFrom X.env.cells scope.names []) ((X.mg "__name__").getD .none) c' ctv)) I hP
      (fun b o hb e => Heap.get?_push_of_some _ (hx b o hb e)) (Heap.get?_push_of_some _ htb) hge ⟨oc, vs, t, Heap.get?_push_of_some _ hoc, hd, hv⟩
    have old : ∀ b o, H b = some o → b ≠ P → upd (upd H P (.tbl (ps ++ #[rawInt pos.line, rawInt pos.col, .ref c']))) c' (LamX.CodeO c' (X.env.qual ++ "<lambda>")) b = some o := fun b o e n => by
      rw [upd_ne (ne_of_none e nC), upd_ne n]
      exact e
    have sm : Sm H (upd (upd H P (.tbl (ps ++ #[rawInt pos.line, rawInt pos.col, .ref c']))) c' (LamX.CodeO c' (X.env.qual ++ "<lambda>"))) :=
      ⟨fun b o e n => old b o e fun z => by subst z; rw [hP] at e; cases e; exact n ps rfl, fun b e => (fr_upd (fr_upd e).2).2⟩
    refine h h'.objs.size c' _ ctv _ _ I1 sm (fun p hp => ?_) (Heap.get?_push_size _ rfl) (by
      rw [upd_ne (Nat.ne_of_gt hlt), upd_ne (Nat.ne_of_gt (Nat.lt_of_lt_of_le (Heap.lt_size hP') hsz))]
      exact I.hok.fresh hsz) f1 f2 upd_same
    by_cases hb : p.1 = P
    · rw [hu p hp hb, hb]
      refine ⟨_, by rw [upd_ne nPc, upd_same], by rw [Array.toList_append]; exact PySem.TriplesOk_snoc _ _ _ _ ht, fun p' cv hcv => ?_⟩
      rw [Array.toList_append] at hcv
      rcases LamX.among_app _ ht hcv with z | z
      · obtain ⟨c0, e1, e2⟩ := ha p' cv z
        exact ⟨c0, e1, sm.code e2⟩
      · exact ⟨c', z, upd_same⟩
    · obtain ⟨ps', a1, a2, a3⟩ := hT p hp
      refine ⟨ps', old _ _ a1 hb, a2, fun p' cv hcv => ?_⟩
      obtain ⟨c0, e1, e2⟩ := a3 p' cv hcv
      exact ⟨c0, e1, sm.code e2⟩
end
/-! ### a def is called with a new lambda -/
section
variable {K : PySem.W.Frag} {A B H H1 H0 H' Hi : Hp} {p : Addr → Bool}
mutual
theorem Rp.move : ∀ {d : D} {v : V}, noFn d = true → Rp K A d v → (∀ b o, A b = some o → (∀ a oc, o ≠ FrzO a oc) → NT o → B b = some o) → Rp K B d v
  | _, _, _, .non, _ => .non
  | _, _, _, .bl b, _ => .bl b
  | _, _, _, .int i, _ => .int i
  | _, _, _, .str x, _ => .str x
  | _, _, h, .tup e r, u => .tup (u _ _ e (fun _ _ z => by unfold FrzO at z; cases z) fun _ z => by cases z) (Rps.move (by simpa [noFn] using h) r u)
  | _, _, h, .lst e r, u => .lst (u _ _ e (fun _ _ z => by unfold FrzO at z; cases z) fun _ z => by cases z) (Rps.move (by simpa [noFn] using h) r u)
  | _, _, _, .scr e, u => .scr (e.elim (fun ⟨o, e⟩ => .inl ⟨o, u _ _ e (fun _ _ z => by unfold FrzO at z; cases z) fun _ z => by cases z⟩) .inr)
  | _, _, h, .fn _ _ _ _, _ => by simp [noFn] at h
theorem Rps.move : ∀ {ds : List D} {vs : List V}, noFns ds = true → Rps K A ds vs → (∀ b o, A b = some o → (∀ a oc, o ≠ FrzO a oc) → NT o → B b = some o) → Rps K B ds vs
  | _, _, _, .nil, _ => .nil
  | _, _, h, .cons r t, u =>
    have h' := Bool.and_eq_true_iff.mp (by simpa [noFns] using h)
    .cons (Rp.move h'.1 r u) (Rps.move h'.2 t u)
end
theorem sm_on (n : ∀ a, p a = true → H a = none) (F : Frzs p H0) : Sm H (onH p H0 H) := ⟨fun a o e _ => by rw [on_no (not_p n e)]; exact e, fun a e => by
  cases z : p a with
  | true => exact n a z
  | false => rw [on_no z] at e; exact e⟩
theorem tab_on (n : ∀ a, p a = true → H a = none) (t : Tbs H) : Tbs (onH p H0 H) := t.ext fun a o e => by rw [on_no (not_p n e)]; exact e
theorem tab_off (F : Frzs p H) (t : Tbs H) : Tbs (offH p H) := fun q hq => by
  obtain ⟨ps, h1, h2, h3⟩ := t q hq
  refine ⟨ps, off_of F h1 (fun oc z => by unfold FrzO at z; cases z), h2, fun pos cv hc => ?_⟩
  obtain ⟨c, e1, e2⟩ := h3 pos cv hc
  exact ⟨c, e1, off_of F e2 (fun oc z => by unfold FrzO LamX.CodeO at z; cases z)⟩
/-- behind a call with more, told with less -/
theorem gr_back (n : ∀ a, p a = true → H a = none) (F : Frzs p H0) (F' : Frzs p H') (tH : Tbs H) (g : Gr (onH p H0 H) H') : Gr H (offH p H') := ⟨⟨fun a o e nt => by
    have z := not_p n e
    rw [off_no z]
    exact g.sm.to a o (by rw [on_no z]; exact e) nt, fun a e => by
    cases z : p a with
    | true => exact n a z
    | false =>
      rw [off_no z] at e
      have := g.sm.fr a e
      rw [on_no z] at this
      exact this⟩, fun _ => tab_off F' (g.tab (tab_on n tH))⟩
theorem vw_back (n : ∀ a, p a = true → H a = none) (F' : Frzs p H') : ∀ b o, vw (onH p H0 H) H' b = some o → (∀ a oc, o ≠ FrzO a oc) → NT o → vw H (offH p H') b = some o := fun b o e nf nt => by
  obtain ⟨e1, e2⟩ := of_vw e
  have z : p b = false := by
    cases z : p b with
    | false => rfl
    | true =>
      obtain ⟨oc, q⟩ := F' b z
      rw [e1] at q
      exact absurd (Option.some.inj q) (nf b oc)
  exact vw_of (by rw [off_no z]; exact e1) fun xs q => e2 xs (by rw [on_no z]; exact q)
end
theorem capD_get : ∀ {is : List Nat} {r : Env} {ds : List D}, capD is r = .ok ds → ds.length = is.length ∧ ∀ (j i : Nat), is[j]? = some i → ∃ d, ds[j]? = some d ∧ r[i]? = some (.imm d)
  | [], r, ds, h => by cases h; exact ⟨rfl, fun j i e => by simp at e⟩
  | i :: is, r, ds, h => by
    unfold capD at h
    split at h
    · rename_i d e
      cases h2 : capD is r with
      | ok es =>
        rw [h2] at h
        cases h
        obtain ⟨k1, k2⟩ := capD_get h2
        refine ⟨by rw [List.length_cons, List.length_cons, k1], fun j i' e' => ?_⟩
        cases j with
        | zero => simp at e'; subst e'; exact ⟨d, rfl, e⟩
        | succ j => simp at e'; obtain ⟨d', a, b⟩ := k2 j i' e'; exact ⟨d', by simpa using a, b⟩
      | ex c => rw [h2] at h; cases h
      | bad => rw [h2] at h; cases h
    · cases h
theorem capD_ne : ∀ {is : List Nat} {r : Env} {c : String}, capD is r ≠ .ex c
  | [], r, c => fun h => by cases h
  | i :: is, r, c => fun h => by
    unfold capD at h
    split at h
    · cases h2 : capD is r with
      | ok es => rw [h2] at h; cases h
      | ex c => exact capD_ne h2
      | bad => rw [h2] at h; cases h
    · cases h
theorem rps_cap {K : PySem.W.Frag} {H : Hp} : ∀ {ds : List D}, (∀ (j : Nat) (d : D), ds[j]? = some d → ∃ v, Rp K H d v ∧ True) → ∃ vs, Rps K H ds vs
  | [], _ => ⟨[], .nil⟩
  | d :: ds, h => by
    obtain ⟨v, hv, _⟩ := h 0 d rfl
    obtain ⟨vs, hs⟩ := rps_cap (ds := ds) fun j e he => h (j + 1) e (by simpa using he)
    exact ⟨v :: vs, .cons hv hs⟩
/-- the slots' values -/
theorem rps_slots {K : PySem.W.Frag} {F : Fm} {r : Env} {σ : L2.St} {Hi H : Hp} (R : Rel K F r σ Hi H) : ∀ {is : List Nat} {ds : List D}, capD is r = .ok ds → ∃ vs, Rps K Hi ds vs ∧ ∀ (j i : Nat), is[j]? = some i → ∃ v, vs[j]? = some v ∧ σ[i]? = some (some v)
  | [], ds, h => by cases h; exact ⟨[], .nil, fun j i e => by simp at e⟩
  | i :: is, ds, h => by
    unfold capD at h
    split at h
    · rename_i d e
      cases h2 : capD is r with
      | ok es =>
        rw [h2] at h
        cases h
        obtain ⟨v, hv, rv⟩ := R.slot i _ e
        obtain ⟨vs, k1, k2⟩ := rps_slots R h2
        refine ⟨v :: vs, .cons rv k1, fun j i' e' => ?_⟩
        cases j with
        | zero => simp at e'; subst e'; exact ⟨v, rfl, hv⟩
        | succ j => simp at e'; obtain ⟨u, a, b⟩ := k2 j i' e'; exact ⟨u, by simpa using a, b⟩
      | ex c => rw [h2] at h; cases h
      | bad => rw [h2] at h; cases h
    · cases h
section
variable {X : Cx} {p : Bool}
theorem ge_lamc {k t : Nat} {is : List Nat} {fr : List Str} {fa : Addr} {fd : FuncData} {ps : List Str} {G : List D → Ro} {x : Str} {px lpos pos : Pos} {params : Arguments} {body : Expr} {scope : Scope} {c P : Addr}
    (Fo : FnOk X.prog X.w X.K X.mg X.base (L2.CX X.prog X.w) k fa fd ps (spF X.K X.mg G)) (hr : Room k X.A) (hg : Gl X x) (hm : X.mg x = some (.ref fa)) (hk : PySem.W.keepIn X.K (.ref fa) = true) (hb : Binds X.K fd ps []) (hps : ps.length = 1)
    (TB : LamX.TabB X.base X.mg c P) (hcode : X.env.code = .ref c) (hmT : (P, X.env.qual ++ "<lambda>") ∈ Tb.tb) (hu : ∀ p ∈ Tb.tb, p.1 = P → p.2 = X.env.qual ++ "<lambda>") (hdef : defaultsOf params X.env = ([], []))
    (hlm : Tb.lm t = ⟨X.env.qual ++ "<lambda>", params, body, scope, fr⟩) (hfn : ∀ y, X.fn y = true) (hfree : ∀ y ∈ scope.names, y.2 = .free → X.env.scope.names.lookup y.1 = some .cell ∨ X.env.scope.names.lookup y.1 = some .free)
    (hlen : fr.length = is.length) (hcap : ∀ (j : Nat) (y : Str), fr[j]? = some y → ∃ i, is[j]? = some i ∧ X.N[i]? = some y ∧ (y, NameKind.free) ∈ scope.names ∧ X.env.scope.names.lookup y = some .cell)
    (hdb : (x == ("__debug__" : Str)) = false := by decide) : GE X p (.Call (.Name x px) [.Lambda params body scope lpos] [] pos) (eLamC G t is) := fun W tk => by
  refine ⟨fun pins s σ H Q I h => ?_⟩
  obtain ⟨Fm, r, Hi, R, h⟩ := h
  cases hcd : capD is r with
  | ex c => exact absurd hcd capD_ne
  | bad => unfold eLamC at h; rw [hcd] at h; exact h.elim
  | ok ds =>
  unfold eLamC at h
  rw [hcd] at h
  have h : Po X W σ Hi H (match G [.fn t ds] with | .rt d => if noFn d then Rs.ok d else .bad | .ex c => .ex c | _ => .bad) fun d Hi' H' => ∀ v, RvP X.K p Hi' H' d v → Q v H' := h
  obtain ⟨vs, rvs, hvs⟩ := rps_slots R hcd
  have hhas : ∀ y ∈ scope.names, y.2 = .free → ∃ c, X.env.cells.lookup y.1 = some c := fun y hy e => (hfree y hy e).elim (fun z => I.ok.has _ (.inl z)) fun z => I.ok.has _ (.inr z)
  refine wpAny_Call_Name_kw (ld_glob I hg hm ?_ hdb)
  refine PySem.W.callWith_K (h₀ := X.base) I.ok.mod.kin hk ?_ (by rfl) (by rfl)
  show wpAny _ _ (spliced ((false, eval (.Lambda params body scope lpos) X.env) :: backTo pos (starEach [] X.env))) _ _ s
  refine Calls.spliced_cons (lam_mk I TB hcode hmT hu R.tabs hdef hhas fun f c' pm ctv H1 s' I1 sm1 T1 hf hf0 hfr hfb hco => ?_)
  refine Calls.spliced_nil ⟨I1.kIn, ?_⟩
  -- what is put in
  have cm : ∀ {y c}, (cloFrom X.env.cells scope.names []).lookup y = some c → X.env.cells.lookup y = some c := fun {y c} e => by
    rcases cloFrom_mem (PySem.mem_of_lookup e) with hm | ⟨h1, h2⟩
    · cases hm
    · obtain ⟨c1, hc⟩ := hhas _ h1 rfl
      have hc : X.env.cells.lookup y = some c1 := hc
      rw [h2, hc]
      rfl
  obtain ⟨q, hq⟩ : ∃ q : Addr → Bool, ∀ a, q a = true ↔ (a = f ∨ ∃ y, (cloFrom X.env.cells scope.names []).lookup y = some a) := ⟨fun a => @decide _ (Classical.propDecidable _), fun a => @decide_eq_true_iff _ (Classical.propDecidable _)⟩
  obtain ⟨H0, hH0⟩ : ∃ H0 : Hp, ∀ a oc, s'.heap.get? a = some oc → H0 a = some (FrzO a oc) := ⟨fun a => (s'.heap.get? a).map (FrzO a), fun a oc e => by show (s'.heap.get? a).map _ = _; rw [e]; rfl⟩
  have there : ∀ a, q a = true → ∃ oc, s'.heap.get? a = some oc := fun a z => by
    rcases (hq a).mp z with rfl | ⟨y, e⟩
    · exact ⟨_, hf⟩
    · obtain ⟨v, o, ho, _⟩ := I1.cell y a (cm e)
      exact ⟨o, ho⟩
  have F0 : Frzs q H0 := fun a z => by
    obtain ⟨oc, e⟩ := there a z
    exact ⟨oc, hH0 a oc e⟩
  have n1 : ∀ a, q a = true → H1 a = none := fun a z => by
    rcases (hq a).mp z with rfl | ⟨y, e⟩
    · exact hf0
    · exact I1.freeC y a (cm e)
  have g0 : ∀ a oc, q a = true → H0 a = some (FrzO a oc) → s'.heap.get? a = some oc := fun a oc z e => by
    obtain ⟨oc', e'⟩ := there a z
    rw [hH0 a oc' e'] at e
    unfold FrzO at e
    have := Option.some.inj e
    injection this with e1 _
    rw [e', e1]
  have cfar : ∀ y a, X.env.cells.lookup y = some a → X.s_0.heap.objs.size ≤ a := fun y a e => I1.ok.cab y a (hfn y) e
  have nb : ∀ b o, X.base.get? b = some o → q b = false := fun b o e => by
    cases z : q b with
    | false => rfl
    | true =>
      rcases (hq b).mp z with rfl | ⟨y, e'⟩
      · rw [hfb] at e; cases e
      · exact absurd (Nat.lt_of_lt_of_le (Heap.lt_size (I1.ok.bs b o e).1) (cfar y b (cm e'))) (Nat.lt_irrefl _)
  have nf : ∀ b ∈ frs X.stack, q b = false := fun b hb' => by
    cases z : q b with
    | false => rfl
    | true =>
      rcases (hq b).mp z with rfl | ⟨y, e'⟩
      · exact absurd hb' hfr
      · rcases List.mem_cons.mp (I1.stkSub _ hb') with e | e
        · exact absurd e (I1.cne y b (cm e'))
        · obtain ⟨_, o, ho, _⟩ := I1.ok.funs.mem e
          exact absurd (Nat.lt_of_lt_of_le (Heap.lt_size ho) (cfar y b (cm e'))) (Nat.lt_irrefl _)
  have e0 : Env0 X.prog X.w X.K X.mg X.base X.A X.stack s' (onH q H0 H1) := Env0.more F0 n1 g0 nb nf I1.env0
  have smo : Sm H1 (onH q H0 H1) := sm_on n1 F0
  have at_ : ∀ a oc, q a = true → s'.heap.get? a = some oc → onH q H0 H1 a = some (FrzO a oc) := fun a oc z e => by rw [on_yes z]; exact hH0 a oc e
  have rf : Rp X.K (onH q H0 H1) (.fn t ds) (.ref f) := by
    have C : ClAt (onH q H0 H1) (cloFrom X.env.cells scope.names []) fr vs := by
      refine ⟨?_, fun y c e => ?_, fun y z c e1 e2 => I1.ok.inj y z c (cm e1) (cm e2), fun j y e => ?_⟩
      · rw [hlen, ← (capD_get hcd).1, rvs.length]
      · obtain ⟨v, o, ho, hd⟩ := I1.cell y c (cm e)
        exact ⟨o, v, at_ c o ((hq c).mpr (.inr ⟨y, e⟩)) ho, hd⟩
      · obtain ⟨i, e1, e2, e3, e4⟩ := hcap j y e
        obtain ⟨v, hv, hσ⟩ := hvs j i e1
        obtain ⟨m, hn, hl⟩ := I1.loc
        obtain ⟨u, ru, lk⟩ := hl i y v e2 hσ (.inr (.inl e4))
        obtain ⟨cc, hcl⟩ := mem_lookup (cloFrom_has (cells := X.env.cells) (acc := []) e3)
        rcases lk with ⟨k', _⟩ | ⟨_, c3, e', o, ho, hd⟩
        · have k' : X.env.scope.names.lookup y = some .local := k'
          rw [e4] at k'
          cases k'
        · have : cc = c3 := by
            have := cm hcl
            rw [e'] at this
            exact (Option.some.inj this).symm
          subst this
          exact ⟨cc, o, u, v, hcl, at_ cc o ((hq cc).mpr (.inr ⟨y, hcl⟩)) ho, hd, hv, ru⟩
    refine Rp.fn (cl := cloFrom X.env.cells scope.names []) (c' := c') (pm := pm) (ctv := ctv) (vs := vs) ?_ ?_ ((rvs.same R.sub).same (sm1.trans smo)) ?_
    · rw [hlm]; exact at_ f _ ((hq f).mpr (.inl rfl)) hf
    · rw [hlm]; exact C
    · rw [hlm]; exact smo.code hco
  have rc : codeAny (model X.prog X.w) X.A (.call (.ref fa) ⟨[.ref f], []⟩) (CR (L2.CX X.prog X.w) X.stack X.prog X.w (onH q H0 H1) s' (fun v H' => Frzs q H' → Q v (offH q H')) (fun cls d H' => Frzs q H' → W cls d σ (offH q H'))) s' := by
    refine Fo.run X.A X.stack s' (onH q H0 H1) ⟨[.ref f], []⟩ [.ref f] [.ref f] _ _ hr e0 (hb s' [.ref f] I1.kIn (by rw [hps]; rfl)) (.cons rfl .nil) ⟨tab_on n1 T1, [.fn t ds], .cons rf .nil, ?_⟩
    revert h
    cases G [.fn t ds] with
    | bad => exact id
    | rn es => exact fun h => h.elim
    | ex c =>
      intro h H' u g hu' F'
      have g1 : Gr H (offH q H') := Gr.trans ⟨sm1, fun _ => T1⟩ (gr_back n1 F0 F' T1 g)
      obtain ⟨x1, x2⟩ := Ext.back R.sub g1
      exact h _ _ u x1 hu'
    | rt d =>
      intro h v H' g rv F'
      have g0' := gr_back n1 F0 F' T1 g
      have g1 : Gr H (offH q H') := Gr.trans ⟨sm1, fun _ => T1⟩ g0'
      obtain ⟨x1, x2⟩ := Ext.back R.sub g1
      have h : Po X W σ Hi H (if noFn d then Rs.ok d else .bad) fun d Hi' H' => ∀ v, RvP X.K p Hi' H' d v → Q v H' := h
      cases hnf : noFn d with
      | false => rw [hnf] at h; exact h.elim
      | true =>
        rw [hnf] at h
        refine h _ _ x1 v (.inl (((rv.move hnf (vw_back n1 F')).move hnf fun b o e _ nt => ?_).same x2))
        obtain ⟨e1, e2⟩ := of_vw e
        exact vw_of e1 fun xs z => e2 xs (sm1.lst z)
  refine wpAny_call (codeAny_mono rc fun r s2 hq' => ?_)
  cases r with
  | error e => exact passAt tk σ pins H1 s' e s2 I1 (CX.more (E' := WE W σ) F0 n1 e0.hok (fun cls d H' F' w => w F') hq')
  | ok fl =>
    cases fl with
    | ret u => exact I1.after (CE.more (Q' := Q) F0 n1 e0.hok (fun v H' F' w => w F') hq')
    | next => exact False.elim hq'
    | brk => exact False.elim hq'
    | cont => exact False.elim hq'
end
/-! ### a lambda's promise -/
theorem lamF_cases (n : Nat) (ee : Ee) (zs : List D) : lamF n ee zs = .bad ∨ ∃ b, ee (zs.map SV.imm) = .ok (.bl b) ∧ zs.length = n ∧ noFns zs = true ∧ lamF n ee zs = .rt (.bl b) := by
  unfold lamF
  by_cases h : zs.length = n ∧ noFns zs = true
  · rw [if_pos h]
    cases e : ee (zs.map SV.imm) with
    | ok d =>
      cases d with
      | bl b => exact .inr ⟨b, rfl, h.1, h.2, rfl⟩
      | _ => exact .inl rfl
    | ex c => exact .inl rfl
    | bad => exact .inl rfl
  · exact .inl (if_neg h)
section
variable {P : Program} {w : World} {K : PySem.W.Frag} {mg : Str → Option Value} {base : Heap}
abbrev nfOf (L : Lm) (cl : List (Str × Addr)) (c' : Addr) : NdefX.NF := ⟨"<lambda>", L.qual, L.params, [], L.scope, cl, c'⟩
theorem lam_ok {k t : Nat} {ps : List Str} {ee : Ee} (S : NdefX.NScope (ps ++ (Tb.lm t).fr) ps (Tb.lm t).fr (Tb.lm t).scope)
    (hbind : ∀ (cl : List (Str × Addr)) (pm cv ctv : Value) (us : List Value), us.length = ps.length → bindArgs (PySem.W.kla_fn "<lambda>" (Tb.lm t).qual (Tb.lm t).params (Tb.lm t).body (Tb.lm t).scope cl pm cv ctv) ⟨us, []⟩ = pure (ps.zip us))
    (hbody : ∀ (cl : List (Str × Addr)) (c' f : Addr) (A : Around) (outer : List PySem.Env) (s : Shared) (H : Hp), Room k (A.deeper (NdefX.envF (nfOf (Tb.lm t) cl c') f s.heap.objs.size)) →
      GE (NdefX.ncx (L2.CX P w) P w K mg base (ps ++ (Tb.lm t).fr) (nfOf (Tb.lm t) cl c') f A outer s H (fun _ _ _ => False)) true (Tb.lm t).body ee)
    (A : Around) (outer : List PySem.Env) (s : Shared) (H : Hp) (ds : List D) (f : Addr) (us : List Value) (vs : List V) (Q : VK) (E : XK) (hr : Room (k + 1) A) (e0 : Env0 P w K mg base A outer s H) (rf : Rp K H (.fn t ds) (.ref f)) (rv : Vals vs us)
    (h : spF K mg (fun xs => lamF (ps.length + (Tb.lm t).fr.length) ee (xs ++ ds)) vs H Q E) : codeAny (model P w) A (.call (.ref f) ⟨us, []⟩) (CR (L2.CX P w) outer P w H s Q E) s := by
  obtain ⟨tb, xs, rxs, h⟩ := h
  have h : (match lamF (ps.length + (Tb.lm t).fr.length) ee (xs ++ ds) with | .rt d => ∀ v H', Gr H H' → Rp K (vw H H') d v → Q v H' | .rn es => ∀ a xs H', Gr H H' → H a = none → H' a = some (.lst xs) → Rps K (rm a (vw H H')) es xs → Q (.ref a) H' | .ex c => ∀ H' u, Gr H H' → mg (Str.ofString c) = some u → E u none H' | .bad => False) := h
  rcases lamF_cases (ps.length + (Tb.lm t).fr.length) ee (xs ++ ds) with e | ⟨b, hb, hl, hnf, e⟩
  · rw [e] at h; exact h.elim
  rw [e] at h
  have h : ∀ v H', Gr H H' → Rp K (vw H H') (.bl b) v → Q v H' := h
  cases rf with
  | @fn _ c' _ _ ws cl pm ctv hf C rds hco =>
  have KX : K.In s.heap := e0.mod.kin.keeps fun b o e => (e0.bs b o e).1
  have lim : s.heap.NoLimit := e0.mod.nolimit.keeps fun b o e => (e0.bs b o e).1
  -- the cells are taken out
  obtain ⟨q, hq⟩ : ∃ q : Addr → Bool, ∀ a, q a = true ↔ ∃ y, cl.lookup y = some a := ⟨fun a => @decide _ (Classical.propDecidable _), fun a => @decide_eq_true_iff _ (Classical.propDecidable _)⟩
  have F0 : Frzs q H := fun a z => by
    obtain ⟨y, e⟩ := (hq a).mp z
    obtain ⟨oc, v, e1, _⟩ := C.all y a e
    exact ⟨oc, e1⟩
  have e1 : Env0 P w K mg base A outer s (offH q H) := Env0.less F0 e0
  have hlx : vs.length = ps.length := by
    have a := rxs.length
    have b := rds.length
    have c := C.len
    rw [List.length_append] at hl
    omega
  have CA : NdefX.CellsAt cl (Tb.lm t).fr (ws.map some) s.heap (offH q H) := by
    refine ⟨by rw [List.length_map, C.len], fun y c e => ?_, C.inj, fun i y e => ?_⟩
    · obtain ⟨oc, v, h1, h2⟩ := C.all y c e
      exact ⟨off_yes ((hq c).mpr ⟨y, e⟩), v, oc, frzO_at e0.hok h1, h2⟩
    · obtain ⟨c, oc, u, v, h1, h2, h3, h4, h5⟩ := C.has i y e
      refine ⟨c, h1, fun v' hv' => ?_⟩
      rw [List.getElem?_map, h4] at hv'
      cases hv'
      exact ⟨u, h5, oc, frzO_at e0.hok h2, h3⟩
  refine codeAny_mono (R := CR (L2.CX P w) outer P w (offH q H) s (fun v H' => ∃ Hi', v = .bl b ∧ Ext (offH q H) (offH q H) Hi' H') (fun _ _ _ => False)) ?_ fun r s' hr' => ?_
  · refine PySem.W.kla_callFunE hr.depth (frzO_at e0.hok hf) rfl S.co S.gen rfl (NdefX.codeO_at e0.hok hco) ?_
    rw [hbind _ _ _ _ _ (by rw [← rv.length]; exact hlx)]
    refine wpAny_pure (wpAny_newFunctionEnv S.nocell (fun ⟨n, _⟩ hy => S.par n (List.of_mem_zip hy).1) (fun h₁ hns hsb => ⟨lim.fresh _ hsb, ?_⟩) S.kind)
    show codeAny _ _ (.expr (Tb.lm t).body (NdefX.envF (nfOf (Tb.lm t) cl c') f s.heap.objs.size)) _ _
    have kp : ∀ b o, s.heap.get? b = some o → h₁.get? b = some o := fun b o e => hsb.extBut b o (Nat.ne_of_lt (Heap.lt_size e)) (Heap.get?_push_of_some _ e)
    have J : Inv (NdefX.ncx (L2.CX P w) P w K mg base (ps ++ (Tb.lm t).fr) (nfOf (Tb.lm t) cl c') f A outer s (offH q H) (fun _ _ _ => False)) [] (NdefX.startF (ps ++ (Tb.lm t).fr) vs (ws.map some)) (offH q H) { s with heap := h₁, toks := s.toks + (ps.zip us).length } :=
      NdefX.inv_startN (F := nfOf (Tb.lm t) cl c') S hr.hd e1 hlx rv CA hns kp
    have ht := hbody cl c' f A outer s (offH q H) (hr.deeper _) (fun _ _ _ _ => False) LamX.takes0
    have Rs : Rps K (offH q H) (xs ++ ds) (vs ++ ws) := (rxs.append rds).move hnf fun b o e nf _ => off_of F0 e (nf b)
    have es : NdefX.startF (ps ++ (Tb.lm t).fr) vs (ws.map some) = L2.start (ps ++ (Tb.lm t).fr) (vs ++ ws) := by
      unfold NdefX.startF L2.start
      rw [List.map_append, List.length_map, List.length_append, List.append_assoc, Nat.sub_sub, List.length_append]
    have en : startE (ps ++ (Tb.lm t).fr).length (xs ++ ds) = (xs ++ ds).map SV.imm := by
      unfold startE
      rw [hl, List.length_append, Nat.sub_self]
      exact List.append_nil _
    refine PySem.W.kla_codeExpr (wpAny_mono (ht.run [] _ _ (offH q H) (fun v H' => ∃ Hi', v = .bl b ∧ Ext (offH q H) (offH q H) Hi' H') J ⟨⟨offH q H, true⟩, (xs ++ ds).map SV.imm, offH q H, by
      rw [es, ← en]
      exact rel_start (F := ⟨offH q H, true⟩) (tab_off F0 tb) (Sm.refl _) (fun z => nomatch z) Rs, by
      rw [hb]
      exact fun Hi' H' x v rv => ⟨Hi', rv.bl, x⟩⟩) (fun v s' hq' => ?_) fun e s' hq' => ?_)
    · obtain ⟨w', H', J', rv, q⟩ := hq'
      exact ⟨w', H', J'.os, J'.bare, J'.base, J'.hok, rv, q⟩
    · exact hq'
  · cases r with
    | error e =>
      have z : L2.CX P w outer (offH q H) s (fun _ _ _ => False) e s' := hr'
      obtain ⟨_, _, _, _, _, _, _, _, _, _, _, _, z⟩ := z
      exact z.elim
    | ok fl =>
      cases fl with
      | ret u =>
        refine CE.less (Q' := Q) F0 e0 (fun v H' n' ⟨Hi', ev, x⟩ => ?_) hr'
        subst ev
        refine h _ _ ⟨⟨fun a o e nt => ?_, fun a e => ?_⟩, fun _ => ?_⟩ (.bl b)
        · cases z : q a with
          | true => rw [on_yes z]; exact e
          | false => rw [on_no z]; exact x.h.to a o (by rw [off_no z]; exact e) nt
        · cases z : q a with
          | true => rw [on_yes z] at e; exact e
          | false =>
            rw [on_no z] at e
            have := x.h.fr a e
            rw [off_no z] at this
            exact this
        · exact tab_on n' (x.tab (tab_off F0 tb))
      | next => exact False.elim hr'
      | brk => exact False.elim hr'
      | cont => exact False.elim hr'
end
/-! ### in short -/
def lamIn : List Stmt → Expr
  | [.Return (some (.Call _ [e] _ _)) _] => e
  | _ :: r => lamIn r
  | [] => .Constant .none 0 ⟨0, 0, 0, 0⟩
def lpar : Expr → Arguments
  | .Lambda p _ _ _ => p
  | _ => default
def lbody : Expr → Expr
  | .Lambda _ b _ _ => b
  | e => e
def lscope : Expr → Scope
  | .Lambda _ _ s _ => s
  | _ => default
def mkLm (q : Str) (e : Expr) (fr : List Str) : Lm := ⟨q, lpar e, lbody e, lscope e, fr⟩
def capB (N : List Str) (sc scope : Scope) (fr : List Str) (is : List Nat) : Bool :=
  decide (fr.length = is.length) && scope.names.all (fun y => !decide (y.2 = .free) || decide (sc.names.lookup y.1 = some .cell) || decide (sc.names.lookup y.1 = some .free)) &&
  (fr.zip is).all fun q => decide (N[q.2]? = some q.1) && decide ((q.1, NameKind.free) ∈ scope.names) && decide (sc.names.lookup q.1 = some .cell)
theorem capB_of {N : List Str} {sc scope : Scope} {fr : List Str} {is : List Nat} (h : capB N sc scope fr is = true) : fr.length = is.length ∧ (∀ y ∈ scope.names, y.2 = .free → sc.names.lookup y.1 = some .cell ∨ sc.names.lookup y.1 = some .free) ∧
    ∀ (j : Nat) (y : Str), fr[j]? = some y → ∃ i, is[j]? = some i ∧ N[i]? = some y ∧ (y, NameKind.free) ∈ scope.names ∧ sc.names.lookup y = some .cell := by
  unfold capB at h
  simp only [Bool.and_eq_true, Bool.or_eq_true, Bool.not_eq_true', decide_eq_true_eq, decide_eq_false_iff_not, List.all_eq_true] at h
  obtain ⟨⟨h1, h2⟩, h3⟩ := h
  refine ⟨h1, fun y hy e => ?_, fun j y e => ?_⟩
  · rcases h2 y hy with (z | z) | z
    · exact absurd e z
    · exact .inl z
    · exact .inr z
  · have hj : j < fr.length := by
      rcases Nat.lt_or_ge j fr.length with z | z
      · exact z
      · rw [List.getElem?_eq_none z] at e; cases e
    obtain ⟨i, hi⟩ : ∃ i, is[j]? = some i := ⟨is[j]'(by omega), List.getElem?_eq_getElem _⟩
    have hm : (y, i) ∈ fr.zip is := List.mem_of_getElem? (i := j) (by rw [List.getElem?_zip_eq_some]; exact ⟨e, hi⟩)
    obtain ⟨⟨a, b⟩, c⟩ := h3 _ hm
    exact ⟨i, hi, a, b, c⟩
section
variable {X : Cx} {p : Bool} {e : Expr} {es : List Expr} {n : En} {pos : Pos}
theorem ge_hs (i : Nat) {j k : Nat} {F : Nat → List D → Ro} {x : Str} {p' : Pos} (L : LamOk X.prog X.w X.K X.mg X.base j F) (hr : Room k X.A) (ha : GA X (e :: es) n) (hj : j ≤ k := by decide) (hN : X.N[i]? = some x := by rfl) (hv : Vis X.env.scope x := by first | exact .inl rfl | exact .inr (.inl rfl) | exact .inr (.inr rfl)) (hdb : (x == ("__debug__" : Str)) = false := by decide) (hcd : (x == ("__classdict__" : Str)) = false := by decide)
    (he : starEach (e :: es) X.env = (false, eval e X.env) :: starEach es X.env := by rfl) (hpl : (backTo pos (starEach es X.env)).any (·.1) = false := by rfl) : GE X p (.Call (.Name x p') (e :: es) [] pos) (eHas F i n) := ge_has L (hr.mono hj) hN hv ha hdb hcd he hpl
theorem ge_lc (t : Nat) (is : List Nat) {j k : Nat} {G : List D → Ro} {x q : Str} {px lpos pos : Pos} {params : Arguments} {body : Expr} {scope sc : Scope} {N fr : List Str} {c P : Addr} {y : Str}
    (Dk : DefOk X.prog X.w X.K X.mg X.base x j [y] G) (hr : Room k X.A) (TB : LamX.TabB X.base X.mg c P) (hcode : X.env.code = .ref c) (hmT : (P, q) ∈ Tb.tb) (hu : ∀ p ∈ Tb.tb, p.1 = P → p.2 = q)
    (hlm : Tb.lm t = ⟨q, params, body, scope, fr⟩) (hcB : capB N sc scope fr is = true) (hq : X.env.qual ++ "<lambda>" = q := by rfl) (hN : X.N = N := by rfl) (hsc : X.env.scope = sc := by rfl) (hj : j ≤ k := by decide) (hg : Gl X x := by rfl)
    (hdef : defaultsOf params X.env = ([], []) := by rfl) (hfn : ∀ y, X.fn y = true := by exact fun _ => rfl) (hdb : (x == ("__debug__" : Str)) = false := by decide) : GE X p (.Call (.Name x px) [.Lambda params body scope lpos] [] pos) (eLamC G t is) := by
  obtain ⟨fa, fd, F, hm, hk, hb⟩ := Dk.ex
  obtain ⟨h1, h2, h3⟩ := capB_of hcB
  subst hq hN hsc
  exact ge_lamc (F.mono hj) hr hg hm hk hb rfl TB hcode hmT hu hdef hlm hfn h2 h1 h3 hdb
end
section
variable {P : Program} {w : World} {K : PySem.W.Frag} {mg : Str → Option Value} {base : Heap}
theorem lam_okL {k t : Nat} {L : Lm} {ps : List Str} {ee : Ee} (hlm : Tb.lm t = L) (S : NdefX.nscB (ps ++ L.fr) ps L.fr L.scope = true)
    (hbind : ∀ (cl : List (Str × Addr)) (pm cv ctv : Value) (us : List Value), us.length = ps.length → bindArgs (PySem.W.kla_fn "<lambda>" L.qual L.params L.body L.scope cl pm cv ctv) ⟨us, []⟩ = pure (ps.zip us))
    (hbody : ∀ (cl : List (Str × Addr)) (c' f : Addr) (A : Around) (outer : List PySem.Env) (s : Shared) (H : Hp), Room k (A.deeper (NdefX.envF (nfOf L cl c') f s.heap.objs.size)) →
      GE (NdefX.ncx (L2.CX P w) P w K mg base (ps ++ L.fr) (nfOf L cl c') f A outer s H (fun _ _ _ => False)) true L.body ee)
    (A : Around) (outer : List PySem.Env) (s : Shared) (H : Hp) (ds : List D) (f : Addr) (us : List Value) (vs : List V) (Q : VK) (E : XK) (hr : Room (k + 1) A) (e0 : Env0 P w K mg base A outer s H) (rf : Rp K H (.fn t ds) (.ref f)) (rv : Vals vs us)
    (h : spF K mg (fun xs => lamF (ps.length + L.fr.length) ee (xs ++ ds)) vs H Q E) : codeAny (model P w) A (.call (.ref f) ⟨us, []⟩) (CR (L2.CX P w) outer P w H s Q E) s := by
  subst hlm
  exact lam_ok (NdefX.nscope_by S) hbind hbody A outer s H ds f us vs Q E hr e0 rf rv h
end
/-! ### a law's end with tables: the script may stand as a list -/
def spLawT (K : PySem.W.Frag) : Sp := fun vs H Q _ => ∃ (a : Addr) (ns : List Int), vs = [.ref a] ∧ SqL K H a (ns.map V.int) ∧ ns.length ≤ 63 ∧ Tbs H ∧ ∀ H', Q (.bl true) H'
section
variable {P : Program} {w : World} {K : PySem.W.Frag} {mg : Str → Option Value} {base : Heap} {k : Nat} {f : Addr} {fd : FuncData} {ps : List Str}
theorem tab_frz {H : Hp} {a : Addr} {xs : List V} {o : Obj} {u : HO} (h : H a = some (.lst xs)) (tb : Tbs H) : Tbs (upd H a (.frz o u)) := fun p hp => by
  obtain ⟨qs, h1, h2, h3⟩ := tb p hp
  refine ⟨qs, by rw [upd_ne (fun z => by rw [z, h] at h1; cases h1)]; exact h1, h2, fun pos cv hc => ?_⟩
  obtain ⟨c, c1, c2⟩ := h3 pos cv hc
  exact ⟨c, c1, by rw [upd_ne (fun z => by rw [z, h] at c2; unfold LamX.CodeO at c2; cases c2)]; exact c2⟩
theorem spLawT_of (F : FnOk P w K mg base (L2.CX P w) k f fd ps (spLaw K)) : FnOk P w K mg base (L2.CX P w) k f fd ps (spLawT K) := by
  refine ⟨fun vs H Q E ⟨a, ns, e, h⟩ => ?_, fun A outer s H args us vs Q E hr e0 hb rv ⟨a, ns, e, hs, hl, tb, q⟩ => ?_⟩
  · subst e
    obtain ⟨hs, hl, tb, q⟩ := h
    rcases hs with (hs | ⟨o, hs⟩) | hs
    · exact F.len [.ref a] (upd H a (.frz { cls := .none, data := .plain } (.lst (ns.map V.int)))) Q E ⟨a, ns, rfl, .inl ⟨_, upd_same⟩, hl, tab_frz hs tb, q⟩
    · exact F.len [.ref a] H Q E ⟨a, ns, rfl, .inl ⟨o, hs⟩, hl, tb, q⟩
    · exact F.len [.ref a] H Q E ⟨a, ns, rfl, .inr (.inr hs), hl, tb, q⟩
  · subst e
    rcases hs with (hs | ⟨o, hs⟩) | hs
    · obtain ⟨hz, its, n, rvs, ho⟩ := e0.hok a _ hs
      have ne : ∀ b u, H b = some u → (∀ xs, u ≠ .lst xs) → b ≠ a := fun b u e n z => by subst z; rw [hs] at e; cases e; exact n _ rfl
      have nn : ∀ b, H b = none → b ≠ a := fun b e z => by subst z; rw [hs] at e; cases e
      have e1 : Env0 P w K mg base A outer s (upd H a (.frz { cls := .type "list", data := .seq its.toArray n } (.lst (ns.map V.int)))) :=
        ⟨e0.frames, e0.mod, fun b o q => ⟨(e0.bs b o q).1, by rw [upd_ne (nn b (e0.bs b o q).2)]; exact (e0.bs b o q).2⟩, e0.bsz, e0.funs, fun b hb => by rw [upd_ne (nn b (e0.frf b hb))]; exact e0.frf b hb, fun b u e => by
          by_cases c : b = a
          · subst c
            rw [upd_same] at e
            cases e
            exact ⟨ho, hz, its, n, rvs, ho⟩
          · rw [upd_ne c] at e
            exact (e0.hok b u e).stay (fun _ _ _ q => q) (fun d q => by rw [upd_ne (ne d _ q fun xs z => by cases z)]; exact q) fun d xs q => by rw [upd_ne (ne d _ q fun xs z => by cases z)]; exact q, e0.bare⟩
      refine codeAny_mono (F.run A outer s _ args us [.ref a] Q (fun _ _ _ => False) hr e1 hb rv ⟨a, ns, rfl, .inl ⟨_, upd_same⟩, hl, tab_frz hs tb, q⟩) fun r s' hr' => ?_
      · cases r with
        | error e =>
          have z : L2.CX P w outer _ s (fun _ _ _ => False) e s' := hr'
          obtain ⟨_, _, _, _, _, _, _, _, _, _, _, _, z⟩ := z
          exact z.elim
        | ok fl =>
          cases fl with
          | ret u =>
            obtain ⟨v, H', os, bare, un, hok, rv', q'⟩ := hr'
            refine ⟨v, H', os, bare, ⟨fun b o e n => un.keep b o e (by rw [upd_ne (nn b n)]; exact n), fun b o e n => un.slot b o e (by rw [upd_ne (nn b n)]; exact n), fun b o e n => un.free b o e (by rw [upd_ne (nn b n)]; exact n), un.there, fun b xs e => un.tups b xs (by rw [upd_ne (ne _ _ e fun xs z => by cases z)]; exact e),
              fun b o u e => un.frzs b o u (by rw [upd_ne (ne _ _ e fun xs z => by cases z)]; exact e), fun b qs e => un.tbls b qs (by rw [upd_ne (ne _ _ e fun xs z => by cases z)]; exact e)⟩, hok, rv', q'⟩
          | next => exact False.elim hr'
          | brk => exact False.elim hr'
          | cont => exact False.elim hr'
    · exact codeAny_mono (F.run A outer s H args us [.ref a] Q E hr e0 hb rv ⟨a, ns, rfl, .inl ⟨o, hs⟩, hl, tb, q⟩) fun _ _ h => h
    · exact codeAny_mono (F.run A outer s H args us [.ref a] Q E hr e0 hb rv ⟨a, ns, rfl, .inr (.inr hs), hl, tb, q⟩) fun _ _ h => h
end
def tabOfK (K : PySem.W.Frag) (c : Addr) : Option Addr := match K.lookup c with
  | some ⟨_, _, .fields vs, _⟩ => (match (vs[11]? : Option Value) with
    | some (.ref P) => some P
    | _ => none)
  | _ => none
end GM

/-! GMw: x in a list of data. -/
namespace GM
open PySem PySem.Spec PyProof.Rows L2
variable [Tb]
section
variable {X : Cx} {p q : Bool} {e a b c : Expr} {f g h : Ee} {pos : Pos} {K : PySem.W.Frag} {Hi H : Hp}
theorem shaped_of7 {d : D} (h : dsh 7 d = true) : SeqAt.shaped (toPy d) = true := by
  obtain ⟨a, b⟩ := lay_of 7 d h
  unfold SeqAt.shaped
  rw [a, decide_eq_true (by omega)]
  rfl
theorem any_inL {x : D} (hx : dsh 7 x = true) : ∀ {ds : List D}, dshs 7 ds = true → ((toPys ds).any fun z => PyData.eqv z (toPy x)) = inL x ds
  | [], _ => rfl
  | d :: ds, h => by
    have h' := (Bool.and_eq_true_iff.mp (by simpa [dshs] using h))
    have ih := any_inL hx h'.2
    unfold inL at ih ⊢
    show (PyData.eqv (toPy d) (toPy x) || (toPys ds).any _) = _
    rw [deq_of 7 d x h'.1 hx, ih, List.any_cons]
theorem ne_inD : NoEx2 gInD := fun x y c e => by
  unfold gInD at e
  split at e
  · split at e <;> cases e
  · cases e
theorem o_inD : Op2 K p q (rInD K) gInD := fun x y z v u Hi H Q e s rv ru w => by
  unfold gInD at e
  split at e
  · rename_i ds
    split at e
    · rename_i hh
      cases e
      obtain ⟨h1, h2⟩ := Bool.and_eq_true_iff.mp hh
      have h8 : dsh 8 (.lst ds) = true := h2
      refine ⟨toPy x, toPys ds, dp_of h1 (rv.rpH s), dp_of h8 (ru.rpH s), shaped_of7 h1, shaped_of h8, ?_⟩
      rw [any_inL h1 h2]
      exact w _ Hi H (Ext.refl s) (.bl _)
    · cases e
  · cases e
theorem units65 {k : Nat} {A : Around} (r : Room k A) : A.units + 65 < cLine := by have := r.un; omega
theorem ge_inD {k : Nat} (hr : Room k X.A) (hm : behindInMarks .In b = false) (ha : GE X true a f) (hb : GE X false b g) : GE X p (.Compare a [.In] [b] pos) (op2 gInD f g) := ge_cmp (op_inD (units65 hr)) o_inD ne_inD hm ha hb
theorem gt_inD {k : Nat} (hr : Room k X.A) (hm : behindInMarks .In b = false) (ha : GE X true a f) (hb : GE X false b g) : GT X (.Compare a [.In] [b] pos) (tBl (op2 gInD f g)) := gt_cmp (op_inD (units65 hr)) o_inD ne_inD hm ha hb
/-! ### i ** j -/
theorem ne_pow : NoEx2 gPow := fun x y c e => by
  unfold gPow at e
  split at e
  · split at e <;> cases e
  · cases e
theorem o_pow : Op2 K p q (rI CPow fun i j => .int (i ^ j.toNat)) gPow := fun x y z v u Hi H Q e s rv ru w => by
  unfold gPow at e
  split at e
  · rename_i i j
    split at e
    · rename_i hh
      cases e
      refine ⟨i, j, rv.int, ru.int, ⟨hh.1, by omega, by omega⟩, w _ Hi H (Ext.refl s) (.int _)⟩
    · cases e
  · cases e
theorem ge_pow (ha : GE X true a f) (hb : GE X true b g) : GE X p (.BinOp a .Pow b pos) (op2 gPow f g) := fun W tk => pe_imp (pe_op op_pow (ha W tk) (hb W tk)) (t_op2 o_pow ne_pow)
end
section
variable {P : Program} {w : World} {K : PySem.W.Frag} {mg : Str → Option Value} {base : Heap}
theorem fn_either {f : Addr} {fd : FuncData} {ps : List Str} {k : Nat} {G G1 G2 : List D → Ro} (F1 : FnOk P w K mg base (L2.CX P w) k f fd ps (spF K mg G1)) (F2 : FnOk P w K mg base (L2.CX P w) k f fd ps (spF K mg G2)) (h : ∀ ds, G ds = G1 ds ∨ G ds = G2 ds) :
    FnOk P w K mg base (L2.CX P w) k f fd ps (spF K mg G) := by
  have key : ∀ vs H Q E, spF K mg G vs H Q E → spF K mg G1 vs H Q E ∨ spF K mg G2 vs H Q E := fun vs H Q E ⟨tb, ds, q, z⟩ => by
    rcases h ds with e | e
    · rw [e] at z; exact .inl ⟨tb, ds, q, z⟩
    · rw [e] at z; exact .inr ⟨tb, ds, q, z⟩
  refine ⟨fun vs H Q E z => (key vs H Q E z).elim (F1.len vs H Q E) (F2.len vs H Q E), fun A outer s H args us vs Q E hr he hb hv hs => ?_⟩
  rcases key vs H Q E hs with z | z
  · exact F1.run A outer s H args us vs Q E hr he hb hv z
  · exact F2.run A outer s H args us vs Q E hr he hb hv z
/-- a def that may be handed lists, and then gives none of those that it holds -/
theorem fn_ok2 {x qual : Str} {st : Stmt} {f : Addr} {fd : FuncData} {N ps : List Str} {k : Nat} {b : Es} (F : Fun K x qual st f fd) (S : FnScope N ps (defScope st))
    (hbody : ∀ (cdv : Value) (A : Around) (outer : List PySem.Env) (s : Shared) (H : Hp) (E : XK), Room k (A.deeper (envOfC qual (defScope st) s.heap.objs.size f cdv)) → GSs (cxOf (L2.CX P w) P w K mg base N qual (defScope st) f cdv A outer s H E) (defBody st) b) :
    FnOk P w K mg base (L2.CX P w) (k + 1) f fd ps (spF K mg (runB N.length ps.length b)) :=
  fn_either (fn_ok0 F S hbody) (fn_ok F S hbody) fun ds => by
    unfold runB
    cases noLs ds with
    | true => exact .inl rfl
    | false => exact .inr rfl
end
end GM

/-! GMx: texts: split, signs, one sign in a text, int of figures, slices. -/
namespace GM
open PySem PySem.Spec PyProof.Rows L2
theorem splN_is (c : Nat) : ∀ (l acc : List Nat), TL.spl [c] 0 acc l = splN c acc l
  | [], acc => rfl
  | d :: r, acc => by
    unfold splN
    by_cases h : d = c
    · subst h
      have hp : TL.pre [d] (d :: r) = true := TL.pre_self [d] r
      rw [if_pos rfl, TL.spl_hit hp]
      show acc :: TL.spl [d] 0 [] r = _
      rw [splN_is d r []]
    · rw [if_neg h, TL.spl_miss (TL.pre_of_head [] r h)]
      exact splN_is c r _
theorem splN_len (c : Nat) : ∀ (l acc : List Nat), (splN c acc l).length ≤ l.length + 1
  | [], acc => Nat.le_refl _
  | d :: r, acc => by
    unfold splN
    split
    · rw [List.length_cons, List.length_cons]; exact Nat.succ_le_succ (splN_len c r [])
    · rw [List.length_cons]; exact Nat.le_succ_of_le (splN_len c r _)
theorem rps_strs {K : PySem.W.Frag} [Tb] {Hi : Hp} : ∀ l : List (List Nat), Rps K Hi (l.map mkS) ((l.map fun x => (⟨x.toArray⟩ : Str)).map V.str)
  | [] => .nil
  | _ :: l => .cons (.str _) (rps_strs l)
theorem map_of_tl {l : List Str} {m : List (List Nat)} (h : l.map TL.tl = m) : l = m.map fun x => (⟨x.toArray⟩ : Str) := by
  refine TL.map_tl_inj ?_
  rw [h, List.map_map]
  exact (List.map_id m).symm.trans (List.map_congr_left fun x _ => rfl)
variable [Tb]
section
variable {X : Cx} {p q : Bool} {e a b c : Expr} {es : List Expr} {f g h : Ee} {n m : En} {pos : Pos} {K : PySem.W.Frag} {F : Fm} {r : Env} {σ : L2.St} {Hi H Hi' H' : Hp} {tg : Expr}
theorem gn_spl {apos : Pos} (ha : GE X true a f) (hb : GE X true b g) (hs : starEach [b] X.env = [(false, eval b X.env)] := by rfl) (hbase : attributeBase a "split" X.env (eval a X.env) = eval a X.env := by rfl) (hline : (apos.endLine == pos.line) = true := by rfl) :
    GN X (.Call (.Attribute a "split" apos) [b] [] pos) (nSpl f g) := fun W tk =>
  pe_imp (pe_split (ha W tk) (hb W tk) hs hbase hline) fun σ H Q ⟨F, ρ, Hi, R, h⟩ => by
    refine ⟨F, ρ, Hi, R, (Po.bind h).imp fun x Hi1 H1 _ e1 k v rv => ?_⟩
    have k := k e1
    cases x with
    | str s =>
      have ev : v = .str s := rv.str
      subst ev
      refine ⟨⟨s, rfl⟩, F, ρ, Hi1, R.ext e1, (Po.bind k).imp fun y Hi2 H2 _ e2 k u ru => ?_⟩
      have k := k e2
      unfold gSpl at k
      cases y with
      | str t =>
        have eu : u = .str t := ru.str
        subst eu
        simp only at k
        split at k
        · rename_i c hc
          split at k
          · rename_i hl
            have et : TL.tl t = [c] := hc
            have hlen : t.length = 1 := by rw [TL.len_tl, et]; rfl
            have hk : t.cps.all (· < 256) = true := by
              rw [← Array.all_toList, hc]
              simp [hl.1]
            refine ⟨s, t, rfl, rfl, by rw [hlen]; rfl, le_line (by have := hl.2; unfold lim; omega), fun pn hp => ?_⟩
            have e := TL.split_spl s t (by rw [et]; simp) (TL.kind_ok hk)
            rw [et, splN_is] at e
            rw [map_of_tl e]
            exact k _ _ (Ext.lst e2.sub hp) pn _ (Sm.free (e1.h.trans e2.h) hp) upd_same (none_hi e2.sub hp) (rps_strs _)
          · exact k.elim
        · exact k.elim
      | _ => exact k.elim
    | _ => exact k.elim
theorem walks_str {x : Str} : Walks K p Hi H (Its x) (x.cps.toList.map fun c => mkS [c]) := fun Hi1 H1 s1 s2 s3 => by
  have hl : (x.cps.toList.map fun c => mkS [c]).length = x.cps.size := by rw [List.length_map, Array.length_toList]
  refine ⟨by show x.cps.size ≤ _; rw [hl]; exact Nat.le_refl _, fun i d e => ?_⟩
  have hi : i < x.cps.size := by rw [← hl]; exact (List.getElem?_eq_some_iff.mp e).1
  refine ⟨hi, fun v H2 y => ?_⟩
  obtain ⟨rfl, c, hc, rfl⟩ := y
  rw [List.getElem?_map, Array.getElem?_toList, hc] at e
  cases e
  exact ⟨Hi1, Ext.refl s2, .str _⟩
theorem gi_str (ha : GE X true a f) : GI X p tg a (iTx f) := fun W tk => pi_imp (pi_str (ha W tk)) fun σ H Rr ⟨F, ρ, Hi, R, h⟩ => by
  refine ⟨F, ρ, Hi, R, (Po.bind h).imp fun x Hi1 H1 _ e1 k v rv => ?_⟩
  have k := k e1
  cases x with
  | str z =>
    have k := k Hi1 H1 (Ext.refl e1.sub)
    have ev : v = .str z := rv.str
    subst ev
    exact ⟨z, rfl, k _ walks_str⟩
  | _ => exact k.elim
theorem ne_inS : NoEx2 gInS := fun x y c e => by
  unfold gInS at e
  split at e
  · split at e <;> cases e
  · cases e
theorem ne_notInS : NoEx2 gNotInS := fun x y c e => by
  unfold gNotInS at e
  split at e
  · split at e <;> cases e
  · cases e
theorem one_sign {a : Str} {c : Nat} (h : a.cps.toList = [c]) : a = ⟨#[c]⟩ := TL.ext_tl h
theorem o_inS : Op2 K true true (fun x y H Q => ∃ (c : Nat) (z : Str), x = .str ⟨#[c]⟩ ∧ y = .str z ∧ Q (.bl (decide (c ∈ z.cps.toList))) H) gInS := fun x y z v u Hi H Q e s rv ru w => by
  unfold gInS at e
  split at e
  · rename_i a t
    split at e
    · rename_i c hc
      cases e
      refine ⟨c, t, by rw [rv.str, one_sign hc], ru.str, w _ Hi H (Ext.refl s) (.bl _)⟩
    · cases e
  · cases e
theorem o_notInS : Op2 K true true (fun x y H Q => ∃ (c : Nat) (z : Str), x = .str ⟨#[c]⟩ ∧ y = .str z ∧ Q (.bl (!decide (c ∈ z.cps.toList))) H) gNotInS := fun x y z v u Hi H Q e s rv ru w => by
  unfold gNotInS at e
  split at e
  · rename_i a t
    split at e
    · rename_i c hc
      cases e
      refine ⟨c, t, by rw [rv.str, one_sign hc], ru.str, w _ Hi H (Ext.refl s) (.bl _)⟩
    · cases e
  · cases e
theorem ge_inS (ha : GE X true a f) (hb : GE X true b g) (hm : behindInMarks .In b = false := by rfl) : GE X p (.Compare a [.In] [b] pos) (op2 gInS f g) := ge_cmp op_in_sign o_inS ne_inS hm ha hb
theorem ge_notInS (ha : GE X true a f) (hb : GE X true b g) (hm : behindInMarks .NotIn b = false := by rfl) : GE X p (.Compare a [.NotIn] [b] pos) (op2 gNotInS f g) := ge_cmp op_notIn_sign o_notInS ne_notInS hm ha hb
theorem gt_inS (ha : GE X true a f) (hb : GE X true b g) (hm : behindInMarks .In b = false := by rfl) : GT X (.Compare a [.In] [b] pos) (tBl (op2 gInS f g)) := gt_cmp op_in_sign o_inS ne_inS hm ha hb
theorem gt_notInS (ha : GE X true a f) (hb : GE X true b g) (hm : behindInMarks .NotIn b = false := by rfl) : GT X (.Compare a [.NotIn] [b] pos) (tBl (op2 gNotInS f g)) := gt_cmp op_notIn_sign o_notInS ne_notInS hm ha hb
/-! ### int of a text of figures -/
theorem ne_intS : NoEx1 gIntS := fun x c e => by
  unfold gIntS at e
  split at e
  · split at e <;> cases e
  · cases e
theorem o_intS : Op1 K false (fun v H Q => ∃ a n, [v] = [.str a] ∧ PySem.intText? a = some n ∧ a.length ≤ 640 ∧ Q (.int n) H) gIntS := fun x z v Hi H Q e s rv w => by
  cases x with
  | str a =>
    unfold gIntS at e
    simp only at e
    split at e
    · rename_i hh
      cases e
      refine ⟨a, valN a.cps.toList, by rw [rv.str], ?_, hh.1, w _ Hi H (Ext.refl s) (.int _)⟩
      exact PySem.intText_digits (fun c hc => of_decide_eq_true (List.all_eq_true.mp hh.2.2 c hc)) hh.2.1 (by have := hh.1; omega)
    · cases e
  | _ => cases e
theorem ge_intS {px : Pos} (hg : Gl X "int") (hm : X.mg "int" = none) (ha : GE X false a f) (he : starEach [a] X.env = (false, eval a X.env) :: starEach [] X.env := by rfl) (hpl : (backTo pos (starEach [] X.env)).any (·.1) = false := by rfl) :
    GE X p (.Call (.Name "int" px) [a] [] pos) (op1 gIntS f) := ge_ty1 call_int_str o_intS ne_intS hg hm (by decide +kernel) ha (by decide) (by decide) he hpl
/-! ### slices -/
variable {lo hi : Option Expr} {fl fh : Eo} {p2 : Pos}
theorem ge_slS (ha : GE X true a f) (hl : GO X lo fl) (hh : GO X hi fh) : GE X p (.Subscript a (.Slice lo hi none p2) pos) (eSlS f fl fh) := fun W tk => pe_imp (pe_slice sl_str (ha W tk) (hl W tk) (hh W tk)) fun σ H Q ⟨F, ρ, Hi, R, h⟩ => by
  refine ⟨F, ρ, Hi, R, (Po.bind h).imp fun x Hi1 H1 _ e1 k v rv => ?_⟩
  refine ⟨F, ρ, Hi1, R.ext e1, (Po.bind (k e1)).imp fun l Hi2 H2 _ e2 k => ?_⟩
  refine ⟨F, ρ, Hi2, (R.ext e1).ext e2, (Po.bind (k e2)).imp fun u Hi3 H3 _ e3 k => ?_⟩
  have k := k e3
  cases x with
  | str z =>
    have ev : v = .str z := rv.str
    subst ev
    simp only at k
    split at k
    · rename_i hz
      refine ⟨z, rfl, le_line (by unfold lim; omega), ?_⟩
      have e : cutS z l u = ⟨(cut z.cps.toList l u).toArray⟩ := by
        unfold cutS cut
        rw [sIx_is, sIx_is, Array.length_toList]
        rfl
      rw [e]
      exact k Hi3 H3 (Ext.refl e3.sub) _ (.inl (.str _))
    · exact k.elim
  | _ => exact k.elim
end
end GM

/-! GMy: a comprehension whose element, a call, may raise. -/
namespace GM
open PySem PySem.Spec PyProof.Rows L2
section
variable {X : Cx} {pins : List (Addr × Obj)} {σ : L2.St} {H : Hp} {W : WX}
/-- a call's exception, out of a block C of names that is let go -/
theorem out_of {s1 s' : Shared} {C : Addr} {mC : Str → Option Value} {cenv : PySem.Env} {u : Value} (I : Inv X pins σ H s1) (tk : L2.Takes X W) (hst : X.stack = X.env :: X.outer) (hf : X.env.frame = some X.env.locals)
    (hcf : cenv.frame = X.env.frame) (hcl : cenv.locals = C) (fC : FpOk X pins H C) (hn : s1.heap.Ns C mC) (c : L2.CX X.prog X.w X.stack H s1 (fun cls d H' => W cls d σ H') u s') :
    notedBy (model X.prog X.w) X.A cenv (CompFails (model X.prog X.w) X.A X.xe cenv) u s' := by
  obtain ⟨a, B, H', cls, d, rfl, fl0, hok, ub, na, os, ag, hE⟩ := c
  have fl : HandSPX.FlyingZ B (X.env :: X.outer) a (Zc cls d) s'.heap := hst ▸ fl0
  have frA : X.A.frames = some (X.env :: X.outer) := by rw [I.ok.frames, hst]
  obtain ⟨f0, f1, f2, f3, f4, f5⟩ := fC
  have nC : C ∉ frs X.stack := fun z => (List.mem_cons.mp (I.stkSub C z)).elim f1 f2
  obtain ⟨oC, esC, epC, hoC, hdC, rC⟩ := id hn
  have BC : B.get? C = some oC := ub.keep C oC hoC f0 nC
  have CN : H' C = none := ub.free C oC hoC f0
  have nsS : s'.heap.Ns C mC := ⟨oC, esC, epC, fl.1 C oC BC, hdC, rC⟩
  show wpAny _ _ (noteFrame (.ref a) cenv) _ _ s'
  rw [noteFrame_env _ hcf]
  refine HandSPX.looks_onZ Zc.steady frA hf fl fun h1 held up1 => ?_
  have nsC1 : h1.Ns C mC := nsS.upToSlots up1
  refine ⟨mC, by rw [hcl]; exact nsC1, fun h2 m2 hn2 sb => ?_⟩
  rw [hcl] at hn2 sb
  obtain ⟨k1, k2, k3, oe, vs, T, oT, ts, he, hz, hd, h1t, hnT, hTe, hT, hdT, h3t⟩ := held
  have ne : ∀ b, B.get? b = none → b ≠ C := fun b e z => by rw [z, BC] at e; cases e
  have eq2 : ∀ b o, b ≠ C → B.get? b = some o → h2.get? b = some o := fun b o n e => (sb.2 b n).trans (k1 b o e)
  -- the new ground
  obtain ⟨B2, p1, p2⟩ := restrict h2 fun b => (B.get? b).isSome
  obtain ⟨G, g1, g2⟩ := restrict h2 fun b => (B.get? b).isSome || decide (b ∈ frs X.stack)
  have gN : ∀ b, B.get? b = none → B2.get? b = none := fun b e => p2 b (by simp [e])
  have gS : ∀ b o, B.get? b = some o → B2.get? b = h2.get? b := fun b o e => p1 b (by simp [e])
  have st2 : B2.StaysIn h2 := fun b o e => by
    cases q : B.get? b with
    | none => rw [gN b q] at e; cases e
    | some o' => rw [gS b o' q] at e; exact e
  have GB : ∀ b o, B.get? b = some o → G.get? b = h2.get? b := fun b o e => g1 b (by simp [e])
  have GF : ∀ b, b ∈ frs X.stack → G.get? b = h2.get? b := fun b e => g1 b (by simp [e])
  have Gin : ∀ b o, G.get? b = some o → h2.get? b = some o ∧ ((B.get? b).isSome = true ∨ b ∈ frs X.stack) := fun b o e => by
    cases q : ((B.get? b).isSome || decide (b ∈ frs X.stack)) with
    | false => rw [g2 b q] at e; cases e
    | true => rw [g1 b q] at e; exact ⟨e, by simpa [Bool.or_eq_true] using q⟩
  have ff2 : h2.FunFrames B2 (X.env :: X.outer) := funFrames_none (Heap.FunFrames.sameBut sb hn2 k3) fun b hb => gN b (k3.mem hb).1
  have held2 : HandSPX.HeldZ B2 (X.env :: X.outer) a (Zc cls d) X.env.locals h2 :=
    ⟨st2, gN a k2, ff2, oe, vs, T, oT, ts, (sb.2 a (ne a k2)).trans he, hz, hd, h1t, gN T hnT, hTe, (sb.2 T (ne T hnT)).trans hT, hdT, h3t⟩
  have frame2 : ∀ b o, s1.heap.get? b = some o → b ∈ frs X.stack → ∃ sl, h2.get? b = some { o with slots := sl } := fun b o e hb => by
    obtain ⟨sl, q⟩ := ub.slot b o e hb
    have nb : b ≠ C := fun z => nC (z ▸ hb)
    obtain ⟨_, o', e', nf⟩ := fl.2.2.1.mem (hst ▸ hb)
    rw [q] at e'
    cases e'
    obtain ⟨sl2, q2⟩ := up1 b _ q nf
    exact ⟨sl2, (sb.2 b nb).trans q2⟩
  have back : Inv X pins σ H' { s1 with heap := G, gens := s'.gens, drawn := s'.drawn, toks := s'.toks } := by
    refine I.call (ch := [C]) ⟨fun b o e n hb hc => ?_, fun b o e n hb hc => ?_, fun b o e n _ => ub.free b o e n, fun b o e hc => ?_, ub.tups, ub.frzs, ub.tbls⟩ (fun b o q => ?_) ag fun b hb => ?_
    · have nb : b ≠ C := fun z => hc (z ▸ List.mem_singleton.mpr rfl)
      have q := ub.keep b o e n hb
      exact (GB b o q).trans (eq2 b o nb q)
    · obtain ⟨sl, q⟩ := frame2 b o e hb
      exact ⟨sl, (GF b hb).trans q⟩
    · by_cases hb : b ∈ frs X.stack
      · obtain ⟨sl, q⟩ := frame2 b o e hb
        exact ⟨_, (GF b hb).trans q⟩
      · obtain ⟨o', q⟩ := ub.there b o e hb
        by_cases z : b = C
        · subst z
          obtain ⟨o2, _, _, q2, _⟩ := hn2
          exact ⟨o2, (GB b o' q).trans q2⟩
        · exact ⟨o', (GB b o' q).trans (eq2 b o' z q)⟩
    · refine (hok b o q).stay (fun x v hx r => ?_) (fun _ r => r) fun _ _ r => r
      have nx : x ≠ C := fun z => by
        rcases hx with hx | hx
        · rw [← hx, z, CN] at q; cases q
        · rw [z, CN] at hx; cases hx
      exact (GB x v r).trans (eq2 x v nx r)
    · obtain rfl := List.mem_singleton.mp hb
      exact ⟨f3, f1, f4, f5⟩
  -- on, in the def's own frame
  unfold PySem.passOn
  refine wpAny_bind (wpAny_field ((sb.2 a (ne a k2)).trans he) hd h1t ?_)
  rw [if_neg (show ¬ ((Value.ref T == Value.none) = true) from by simp)]
  rw [hcf, hf]
  refine wpAny_bind (HandSPX.setFlight_onZ held2 fun h3 held3 up3 => ?_)
  refine wpAny_throw (tk _ _ ⟨a, B2, _, pins, σ, H', cls, d, rfl, back, fun b o e hb => ?_, ?_, .inr (.inr (by rw [hst]; exact held3)), na, os, ag, hE⟩)
  · obtain ⟨e1, e2⟩ := Gin b o e
    rcases e2 with e2 | e2
    · obtain ⟨o', q⟩ := Option.isSome_iff_exists.mp e2
      rw [gS b o' q]; exact e1
    · exact absurd e2 hb
  · exact (Heap.UpToSlots.of_keeps fun b o e => (Gin b o e).1).trans up3
end
/-- a block's context with a wish of its own -/
abbrev blkE (X : Cx) (s : Shared) (H : Hp) (scope : Scope) (ce : PySem.Env) (fp : List Addr) (xe : Value → Shared → Prop) : Cx := { X.blk s H scope ce fp with xe := xe }
section
variable {X : Cx} {pins : List (Addr × Obj)} {σ : L2.St} {H : Hp} {s : Shared}
theorem to_blkE {scope : Scope} {ce : PySem.Env} {fp : List Addr} {xe : Value → Shared → Prop} {pn : List (Addr × Obj)} {s5 : Shared} {σ5 : L2.St} {H5 : Hp} (I : Inv (X.blk s H scope ce fp) pn σ5 H5 s5) : Inv (blkE X s H scope ce fp xe) pn σ5 H5 s5 := I.wish xe
theorem of_blkE {scope : Scope} {ce : PySem.Env} {fp : List Addr} {xe : Value → Shared → Prop} {pn : List (Addr × Obj)} {s5 : Shared} {σ5 : L2.St} {H5 : Hp} (I : Inv (blkE X s H scope ce fp xe) pn σ5 H5 s5) : Inv (X.blk s H scope ce fp) pn σ5 H5 s5 := Inv.unwish (X := X.blk s H scope ce fp) (E := xe) I
/-- what the element's calls let out is taken behind the block -/
def OutOk (X Y : Cx) (W : WX) (σ : L2.St) : Prop := ∀ σ2, PassesAt (L2.CX X.prog X.w) Y σ2 (fun cls d H' => W cls d σ H')
theorem pe_lcE {elt tg iter : Expr} {ifs : List Expr} {scope : Scope} {own : List (Str × Nat)} {pos : Pos} {wi : TI} {g : TG} {tt : TT} {te : L2.St → TE} {W : WX} (hc : X.calm = true) (hst : X.stack = X.env :: X.outer) (hfr : X.env.frame = some X.env.locals) (tk : L2.Takes X W)
    (hN : X.N.Nodup) (hi : PI X tg iter wi) (ok : BlkOk X.N X.env.scope scope own)
    (hg : ∀ (s : Shared) (H : Hp) (C : Addr) (cl : List (Str × Addr)) (fp : List Addr), PG (X.blk s H scope (compEnvC scope cl C X.env) fp) tg g)
    (ht : ∀ (s : Shared) (H : Hp) (C : Addr) (cl : List (Str × Addr)) (fp : List Addr), PTs (X.blk s H scope (compEnvC scope cl C X.env) fp) ifs tt)
    (he : ∀ (σ0 : L2.St) (s : Shared) (H : Hp) (C : Addr) (cl : List (Str × Addr)) (fp : List Addr) (xe : Value → Shared → Prop), OutOk X (blkE X s H scope (compEnvC scope cl C X.env) fp xe) W σ0 → PE (blkE X s H scope (compEnvC scope cl C X.env) fp xe) elt (te σ0))
    (hfs : ∀ x, foldedSetIterable iter X.env x = pure x := by intro _; rfl) :
    PE X (.ListComp elt [⟨tg, iter, ifs, 0⟩] scope pos) (fun σ H Q => tLc wi g tt (te σ) (own.map (·.2)) σ H Q) := by
  refine ⟨fun pins s σ H Q I h => ?_⟩
  rw [eval_ListComp]
  have capt : ∀ y ∈ scope.names, y.2 = .free → ∃ c, X.env.cells.lookup y.1 = some c := fun y hy e => (ok.free y hy e).elim (fun k => I.ok.has _ (.inl k)) (fun k => I.ok.has _ (.inr k))
  refine comprehension_at (use := none) rfl hfs (closure_ok capt) ok.kind (fun y hy e => by rw [ok.uniq y hy, e]) (thn (hi.run pins s σ H _ I h) fun xv s1 hx => thn hx fun itv s2 h2 => ?_)
  obtain ⟨it, fp, tn, J, H2, rfl, I2, T, st2, f2, q⟩ := h2
  refine wpAny_newObj_type (newEnv_comp ?_) (by show 0 ≤ sizeLine; decide)
  generalize eD : s2.heap.objs.size = D
  have D2 : H2 D = none := I2.hok.fresh (Nat.le_of_eq eD)
  obtain ⟨V, ⟨m0, v0⟩, turn⟩ := q D D2
  generalize e3 : ({ s2 with heap := s2.heap.push { cls := .type "list", data := .seq ([] : List Value).toArray } } : Shared) = s3
  have hp3 : s3.heap = s2.heap.push { cls := .type "list", data := .seq ([] : List Value).toArray } := by rw [← e3]
  have I3 : Inv X pins σ (upd H2 D (.lst [])) s3 := by
    rw [← e3]
    refine I2.laid (t' := s2.toks) (fun b o e => Heap.get?_push_of_some _ e) (Nat.le_of_eq eD) ⟨Nat.zero_le _, [], 0, .nil, ?_⟩
    rw [← eD]; exact Heap.get?_push_size _ rfl
  have below : ∀ b ∈ fp, b < s2.heap.objs.size := fun b hb => let ⟨o, e, _⟩ := T.obj _ _ st2 b hb; Heap.lt_size e
  have f3 : ∀ b ∈ fp, FpOk X pins (upd H2 D (.lst [])) b ∧ b < s3.heap.objs.size := fun b hb => by
    have lt := below b hb
    refine ⟨⟨?_, (f2 b hb).2⟩, by rw [hp3, Heap.size_push]; exact Nat.lt_succ_of_lt lt⟩
    rw [upd_ne (by rw [← eD]; exact Nat.ne_of_lt lt)]; exact (f2 b hb).1
  have st3 : tn 0 s3.heap := T.keep _ _ _ st2 fun b _ o e => by rw [hp3]; exact Heap.get?_push_of_some _ e
  have I4 := block_start I3 ok hN f3
  generalize hcl : cellsFrom (s3.heap.objs.size + 1) scope.names (cloFrom X.env.cells scope.names []) = cl at I4 ⊢
  have pg := hg s3 (upd H2 D (.lst [])) s3.heap.objs.size cl fp
  have pt := ht s3 (upd H2 D (.lst [])) s3.heap.objs.size cl fp
  have pe := he σ s3 (upd H2 D (.lst [])) s3.heap.objs.size cl fp
  show codeAny _ _ (.compStart (.ListComp elt [⟨tg, iter, ifs, 0⟩] scope pos) 0 (.ref it) (.ref D) (compEnvC scope cl s3.heap.objs.size X.env))
    (compEnds (model X.prog X.w) X.A X.xe none (EP X pins σ Q) (.ref D) (compEnvC scope cl s3.heap.objs.size X.env)) { s3 with heap := pushCells (s3.heap.push { cls := .type "dict", data := .dict #[] }) scope.names }
  have free3 : ∀ b ∈ fp, (upd H2 D (.lst [])) b = none := fun b hb => (f3 b hb).1.1
  have ceF : (compEnvC scope cl s3.heap.objs.size X.env).frame = X.env.frame := rfl
  have ceL : (compEnvC scope cl s3.heap.objs.size X.env).locals = s3.heap.objs.size := rfl
  generalize compEnvC scope cl s3.heap.objs.size X.env = ce at I4 pg pt pe ceF ceL ⊢
  generalize hH3 : upd H2 D (.lst []) = H3 at I3 I4 pg pt pe v0 free3 f3
  generalize e4 : ({ s3 with heap := pushCells (s3.heap.push { cls := .type "dict", data := .dict #[] }) scope.names } : Shared) = s4 at I4 ⊢
  have st4 : tn 0 s4.heap := T.keep _ _ _ st3 fun b _ o e => by rw [← e4]; exact pushCells_keeps _ _ _ _ (Heap.get?_push_of_some _ e)
  have steady : ∀ {σ' : L2.St} {H' : Hp} {s' : Shared}, Inv (X.blk s3 H3 scope ce fp) [] σ' H' s' → (∀ b ∈ fp, H' b = none) → ∀ b ∈ fp, FpOk (X.blk s3 H3 scope ce fp) [] H' b := fun {σ' H' s'} J' hn b hb =>
    ⟨hn b hb, (J'.ok.exf b hb).1, J'.ok.exfs b hb, .inl hb, fun x c e => (J'.ok.exf b hb).2 x c e, fun p hp => absurd (show p ∈ ([] : List (Addr × Obj)) ++ [] from hp) (by simp)⟩
  -- from the block back to the def
  have back : ∀ {pl : List (Addr × Obj)} {σ' : L2.St} {H' : Hp} {s' : Shared}, Inv (X.blk s3 H3 scope ce fp) pl σ' H' s' → Inv X pins σ H' s' := fun J' => I3.call' (ch := fp) J'.os J'.base J'.hok J'.bare fun b hb =>
    ⟨(f3 b hb).1.2.2.2.1, (f3 b hb).1.2.1, (f3 b hb).1.2.2.2.2.1, (f3 b hb).1.2.2.2.2.2⟩
  have nblk : ∀ {pl : List (Addr × Obj)} {σ' : L2.St} {H' : Hp} {s' : Shared}, Inv (X.blk s3 H3 scope ce fp) pl σ' H' s' → H' s3.heap.objs.size = none ∧ ∃ m, s'.heap.Ns s3.heap.objs.size m := fun J' => by
    have z := J'.free
    obtain ⟨m, hn, _⟩ := J'.loc
    exact ⟨by rw [← ceL]; exact z, m, by rw [← ceL]; exact hn⟩
  have out : OutOk X (blkE X s3 H3 scope ce fp (notedBy (model X.prog X.w) X.A ce (CompFails (model X.prog X.w) X.A X.xe ce))) W σ := fun σ2 pl H' s5 u s6 J c => by
    obtain ⟨n1, m, n2⟩ := nblk (of_blkE J)
    exact out_of (back (of_blkE J)) tk hst hfr ceF ceL (I3.fpOk (Nat.le_refl _) n1) n2 c
  have pe := pe _ out
  have loop : codeAny (model X.prog X.w) X.A (.compLoop (.ListComp elt [⟨tg, iter, ifs, 0⟩] scope pos) 0 (.ref it) (.ref D) ce) (compEnds (model X.prog X.w) X.A X.xe none (EP X pins σ Q) (.ref D) ce) s4 := by
    refine compLoop_any (fun n s' => ∃ i H', Inv (X.blk s3 H3 scope ce fp) [] (wipe σ (own.map (·.2))) H' s' ∧ tn i s'.heap ∧ (∀ b ∈ fp, H' b = none) ∧ V i n H') ?_ m0 ⟨0, H3, I4, st4, free3, v0⟩
    rintro n s5 ⟨i, H5, I5, st5, n5, v5⟩
    rcases turn i n H5 v5 with ⟨stop, qq⟩ | ⟨go, Nx, hNx, step⟩
    · refine thnF (T.done (X.blk s3 H3 scope ce fp) rfl rfl rfl hc i [] s5 _ H5 (fun _ _ => False) I5 (steady I5 n5) st5 stop) fun r s6 ⟨hr, I6⟩ => ?_
      subst hr
      obtain ⟨nb, m, hn⟩ := nblk I6
      obtain ⟨f0, f1, f2', f3', f4, f5⟩ := I3.fpOk (Nat.le_refl _) nb
      exact ⟨m, by rw [ceL]; exact hn, fun h'' sb => ⟨.ref D, H5, (back I6).turned (t' := s6.toks) (fun b o hb e => (sb.2 b (by rw [ceL]; exact hb)).trans e) f0 f1 f3' f4 f5, rfl, qq⟩⟩
    · refine thnF (T.item (X.blk s3 H3 scope ce fp) rfl rfl rfl hc i [] s5 _ H5 (fun _ _ => False) I5 (steady I5 n5) st5 go) fun r s6 ⟨u, hr, h6⟩ => ?_
      subst hr
      refine thnF h6 fun _ s7 ⟨x, H7, I7, r7, y7, st7, n7⟩ => ?_
      have J7 := I7.pinned (steady I7 n7) (T.obj _ _ st7)
      refine thnF (pg.run _ s7 _ H7 x u _ J7 r7 (step x H7 y7)) fun _ s8 ⟨σ8, H8, I8, w8, q8⟩ => ?_
      refine thnF (pt.run _ s8 σ8 H8 _ I8 q8) fun b s9 ⟨H9, I9, q9⟩ => ?_
      have fin : ∀ {s' : Shared} {H' : Hp}, Inv (X.blk s3 H3 scope ce fp) ([] ++ pinsAt fp s7.heap) σ8 H' s' → Nx H' → ∃ m, m < n ∧ ∃ i H', Inv (X.blk s3 H3 scope ce fp) [] (wipe σ (own.map (·.2))) H' s' ∧ tn i s'.heap ∧ (∀ b ∈ fp, H' b = none) ∧ V i m H' := fun {s' H'} J' nx => by
        obtain ⟨m', lt, v'⟩ := hNx H' nx
        have stands : ∀ b ∈ fp, ∀ o, s7.heap.get? b = some o → s'.heap.get? b = some o ∧ H' b = none := fun b hb o e =>
          ⟨(J'.pin (b, o) (List.mem_append_right _ (List.mem_append_right _ (mem_pinsAt hb e)))).1, (J'.pin (b, o) (List.mem_append_right _ (List.mem_append_right _ (mem_pinsAt hb e)))).2.1⟩
        refine ⟨m', lt, i + 1, H', (J'.unpinned (pins := [])).weak (by rw [← w8, wipe_length]) (fun j v e => ?_), T.keep _ _ _ st7 fun b hb o e => (stands b hb o e).1, fun b hb => ?_, v'⟩
        · rw [← w8] at e
          exact (wipe_some e).1
        · obtain ⟨o, e, _⟩ := T.obj _ _ st7 b hb
          exact (stands b hb o e).2
      cases b with
      | false =>
        simp only [Bool.false_eq_true, if_false] at q9 ⊢
        exact fin I9 q9
      | true =>
        simp only [if_true] at q9 ⊢
        refine thn (pe.run _ s9 σ8 H9 _ (to_blkE I9) q9) fun z s10 ⟨yv, H10, I10, r10, acc, hD10, hz10, nx⟩ => ?_
        exact app_ok (X := X.blk s3 H3 scope ce fp) (of_blkE I10) hD10 hz10 r10 fun s11 I11 => fin I11 nx
  exact codeAny_compStart_list loop (T.self X.A 0 _ _ _ st4 loop)
end
variable [Tb]
section
variable {X : Cx} {p : Bool} {e elt tg iter : Expr} {es ifs : List Expr} {f g h ee : Ee} {n m src : En} {pos : Pos} {K : PySem.W.Frag} {F : Fm} {r : Env} {σ : L2.St} {Hi H Hi' H' : Hp} {gt : Tg} {t : Et} {scope : Scope} {own : List (Str × Nat)}
/-- a wish about the slots that the def had ahead -/
def WAt (W : WX) (σ : L2.St) : WX := fun cls d _ H' => W cls d σ H'
theorem lcx_read {W : WX} {ws : List Nat} {Q : VK} (h : tN X W (nCompX src gt ws t ee) σ H Q) : tLc (tI X W p src) (tG X gt ws) (tT X W0 t) (tE X (WAt W σ) true ee) ws σ H Q := by
  obtain ⟨F, r, Hi, R, h⟩ := h
  refine ⟨F, r, Hi, R, (Po.bind h).imp fun items Hi1 H1 _ e1 k J wk => ?_⟩
  have k := k e1
  split at k
  · rename_i hlim
    obtain ⟨zs, hz⟩ : ∃ zs, lcGoX gt t ee (wipeE r ws) items = zs := ⟨_, rfl⟩
    rw [hz] at k
    intro D hD
    have hHD : H D = none := Sm.free e1.h hD
    -- what is left to be told, behind ds
    have nbad : zs ≠ .bad := fun z => by rw [z] at k; exact k
    refine ⟨fun i m H' => m = items.length - i ∧ i ≤ items.length ∧ ∃ acc ds Hi', H' D = some (.lst acc) ∧ Rps X.K Hi' ds acc ∧ Hi' D = none ∧ Ext Hi1 H1 Hi' H' ∧ ds.length ≤ i ∧ ((lcGoX gt t ee (wipeE r ws) (items.drop i)).bind fun rest => Rs.ok (ds ++ rest)) = zs,
      ⟨items.length, by simp, Nat.zero_le _, [], [], Hi1, upd_same, .nil, none_hi e1.sub hD, Ext.lst e1.sub hD, Nat.le_refl _, ?_⟩, ?_⟩
    · rw [List.drop_zero, hz]
      cases zs <;> rfl
    · rintro i m H' ⟨rfl, hi, acc, ds, Hi', hacc, qa, hDi, ex, hds, hr⟩
      obtain ⟨stp, stepi⟩ := wk Hi' H' ex.hi ex.sub fun _ => ex.h
      by_cases hlt : i < items.length
      · refine .inr ?_
        obtain ⟨go, yl⟩ := stepi i items[i] (by simp [hlt])
        rw [drop_cons' hlt] at hr
        unfold lcGoX at hr
        cases hg1 : gt items[i] (wipeE r ws) with
        | ex c => rw [hg1] at hr; exact absurd hr.symm nbad
        | bad => rw [hg1] at hr; exact absurd hr.symm nbad
        | ok r1 =>
        cases ht1 : t r1 with
        | ex c => rw [hg1, Rs.calm_ok, Rs.bind_ok, ht1] at hr; exact absurd hr.symm nbad
        | bad => rw [hg1, Rs.calm_ok, Rs.bind_ok, ht1] at hr; exact absurd hr.symm nbad
        | ok b =>
        rw [hg1, Rs.calm_ok, Rs.bind_ok, ht1, Rs.calm_ok, Rs.bind_ok] at hr
        refine ⟨go, fun H'' => ∃ acc ds Hi', H'' D = some (.lst acc) ∧ Rps X.K Hi' ds acc ∧ Hi' D = none ∧ Ext Hi1 H1 Hi' H'' ∧ ds.length ≤ i + 1 ∧ ((lcGoX gt t ee (wipeE r ws) (items.drop (i + 1))).bind fun rest => Rs.ok (ds ++ rest)) = zs,
          fun H'' nx => ⟨items.length - (i + 1), by omega, rfl, hlt, nx⟩, fun v H2 y => ?_⟩
        obtain ⟨Hi2, ex2, rv⟩ := yl v H2 y
        have ex12 := ex.trans ex2
        have RR : Rel X.K F (wipeE r ws) (wipe σ ws) Hi2 H2 := R.wipe.ext (e1.trans ex12)
        have hD2 : H2 D = some (.lst acc) := ex2.h.lst hacc
        have hDi2 : Hi2 D = none := ex2.out D acc hacc hDi
        refine ⟨F, wipeE r ws, Hi2, items[i], r1, RR, rv, hg1, fun σ2 R2 hw => ⟨by rw [hw, wipe_wipe], F, r1, Hi2, R2, ?_⟩⟩
        rw [ht1]
        intro Hi3 H3 ex3
        have hD3 : H3 D = some (.lst acc) := ex3.h.lst hD2
        have hDi3 : Hi3 D = none := ex3.out D acc hD2 hDi2
        have ex13 := ex12.trans ex3
        cases b with
        | false =>
          rw [if_neg Bool.false_ne_true] at hr
          exact iteF ⟨acc, ds, Hi3, hD3, (qa.same ex2.hi).same ex3.hi, hDi3, ex13, Nat.le_succ_of_le hds, hr⟩
        | true =>
          rw [if_pos rfl] at hr
          refine iteT ⟨F, r1, Hi3, R2.ext ex3, ?_⟩
          cases hy : ee r1 with
          | bad => rw [hy] at hr; exact absurd hr.symm nbad
          | ex c =>
            rw [hy] at hr
            have hr : Rs.ex c = zs := hr
            rw [← hr] at k
            intro Hi4 H4 u ex4 hu
            exact k Hi4 H4 u (ex13.trans ex4) hu
          | ok y =>
            rw [hy, Rs.bind_ok] at hr
            intro Hi4 H4 ex4 v4 rv4
            have hD4 : H4 D = some (.lst acc) := ex4.h.lst hD3
            have hDi4 : Hi4 D = none := ex4.out D acc hD3 hDi3
            refine ⟨acc, hD4, ?_, acc ++ [v4], ds ++ [y], Hi4, upd_same, (((qa.same ex2.hi).same ex3.hi).same ex4.hi).append (.cons rv4.rp .nil), hDi4, (ex13.trans ex4).mut hD hDi4 hD4, ?_, ?_⟩
            · rw [← qa.length]
              exact lt_line (Nat.lt_of_lt_of_le (Nat.lt_of_le_of_lt hds hlt) hlim)
            · rw [List.length_append]; exact Nat.succ_le_succ hds
            · rw [← hr]
              cases lcGoX gt t ee (wipeE r ws) (items.drop (i + 1)) with
              | ok ys => show Rs.ok (ds ++ [y] ++ ys) = Rs.ok (ds ++ y :: ys); rw [List.append_assoc]; rfl
              | ex c => rfl
              | bad => rfl
      · have ei : i = items.length := by omega
        subst ei
        rw [List.drop_length] at hr
        have hr : Rs.ok (ds ++ []) = zs := hr
        rw [List.append_nil] at hr
        subst hr
        exact .inl ⟨stp, k Hi' H' ex D acc hHD hacc hDi qa⟩
  · exact k.elim
/-- arguments that don't raise -/
def Calm (n : En) : Prop := ∀ r c, n r ≠ .ex c
theorem calm_v (i : Nat) : Calm (aCons (vI i) aNil) := fun r c e => by
  have : aCons (vI i) aNil r = (vI i r).bind fun x => Rs.ok [x] := rfl
  rw [this] at e
  unfold vI at e
  cases h : r[i]? with
  | none => rw [h] at e; cases e
  | some v => rw [h] at e; cases v <;> cases e
/-- [f(y) for x in xs if ..], f may raise -/
theorem gn_compX {k j : Nat} {ps : List Str} {G : List D → Ro} {x : Str} {p' p2 : Pos} (hc : X.calm = true) (hst : X.stack = X.env :: X.outer) (hfr : X.env.frame = some X.env.locals) (hN : X.N.Nodup) (hi : GI X p tg iter src) (ok : BlkOk X.N X.env.scope scope own)
    (hg : ∀ (s : Shared) (H : Hp) (C : Addr) (cl : List (Str × Addr)) (fp : List Addr), GG (X.blk s H scope (compEnvC scope cl C X.env) fp) tg gt (own.map (·.2))) (ht : ∀ (s : Shared) (H : Hp) (C : Addr) (cl : List (Str × Addr)) (fp : List Addr), GTs (X.blk s H scope (compEnvC scope cl C X.env) fp) ifs t)
    (Dk : DefOk X.prog X.w X.K X.mg X.base x j ps G) (hr : Room k X.A) (cn : Calm n)
    (ha : ∀ (s : Shared) (H : Hp) (C : Addr) (cl : List (Str × Addr)) (fp : List Addr) (xe : Value → Shared → Prop), GA (blkE X s H scope (compEnvC scope cl C X.env) fp xe) (e :: es) n)
    (hgl : ∀ (s : Shared) (H : Hp) (C : Addr) (cl : List (Str × Addr)) (fp : List Addr) (xe : Value → Shared → Prop), Gl (blkE X s H scope (compEnvC scope cl C X.env) fp xe) x) (hj : j ≤ k := by decide) (hdb : (x == ("__debug__" : Str)) = false := by decide)
    (hse : ∀ (s : Shared) (H : Hp) (C : Addr) (cl : List (Str × Addr)) (fp : List Addr) (xe : Value → Shared → Prop), starEach (e :: es) (blkE X s H scope (compEnvC scope cl C X.env) fp xe).env = (false, eval e (blkE X s H scope (compEnvC scope cl C X.env) fp xe).env) :: starEach es (blkE X s H scope (compEnvC scope cl C X.env) fp xe).env := by intros; rfl)
    (hpl : ∀ (s : Shared) (H : Hp) (C : Addr) (cl : List (Str × Addr)) (fp : List Addr) (xe : Value → Shared → Prop), (backTo p2 (starEach es (blkE X s H scope (compEnvC scope cl C X.env) fp xe).env)).any (·.1) = false := by intros; rfl) (hs : ∀ x, foldedSetIterable iter X.env x = pure x := by intro _; rfl) :
    GN X (.ListComp (.Call (.Name x p') (e :: es) [] p2) [⟨tg, iter, ifs, 0⟩] scope pos) (nCompX src gt (own.map (·.2)) t (eCall G n)) := fun W tk => by
  obtain ⟨fa, fd, Fo, hm, hk, hb⟩ := Dk.ex
  refine pe_imp (pe_lcE (W := W) (wi := tI X W p src) (g := tG X gt (own.map (fun (x : Str × Nat) => x.2))) (tt := tT X W0 t) (te := fun σ0 => tE X (WAt W σ0) true (eCall G n)) hc hst hfr tk hN (hi W tk) ok hg ht (fun σ0 s H C cl fp xe hx => ?_) hs) fun σ H Q h => lcx_read h
  refine pe_imp (pe_callS (X := blkE X s H scope (compEnvC scope cl C X.env) fp xe) (Fo.mono hj) hr (hgl s H C cl fp xe) hm hk hb (fun σ2 => hx σ2) (ha s H C cl fp xe W0 takes0) hdb (hse s H C cl fp xe) (hpl s H C cl fp xe)) fun σ H Q ⟨F, ρ, Hi, R, h⟩ => ?_
  have h : Po X (WAt W σ0) σ Hi H ((n ρ).bind fun ds => roE (G ds)) _ := h
  refine ⟨F, ρ, Hi, R, ?_⟩
  have hb := Po.bind h
  cases hn : n ρ with
  | bad => rw [hn] at hb; exact hb.elim
  | ex c => exact absurd hn (cn ρ c)
  | ok ds =>
    rw [hn] at hb
    intro Hi1 H1 e1 vs rvs
    exact calls_E (X := blkE X s H scope (compEnvC scope cl C X.env) fp xe) (W := WAt W σ0) (σ := σ) (fun _ _ w => w) e1.sub (R.ext e1).tabs rvs (hb Hi1 H1 e1 e1)
end
/-! ### an except suite that raises -/
abbrev md1 : Md := ⟨true⟩
section
variable {X : Cx} {body : List Stmt} {x : Str} {np pos pos' : Pos} {cv : Value} {fb : Es}
theorem gs_tR {L : TL} {c2 : String} {C2 : Addr} {m : Str} {j : Nat} {q1 q2 q3 q4 : Pos} (hst : X.stack = X.env :: X.outer) (hf : X.env.frame = some X.env.locals) (hc : Names X x cv) (hpa : ∀ hd : Option Value, PassesOwnAt (model X.prog X.w) (X.A.mark hd) X.A X.env X.xe)
    (hb : ∀ (pn : List (Addr × Obj)) (xe : Value → Shared → Prop), PassesOwn (model X.prog X.w) X.A X.env xe → @GSs _ md1 (X.tr pn xe) body fb) (hL : TLok X cv L)
    (E : ExC X.K X.mg c2 C2) (hg : Gl X (Str.ofString c2) := by rfl) (hdb : ((Str.ofString c2) == ("__debug__" : Str)) = false := by decide) :
    GS X (.Try body [.ExceptHandler (some (.Name x np)) none [.Raise (some (.Call (.Name (Str.ofString c2) q1) [.Constant (.str m) j q2] [] q3)) none q4] pos'] [] [] pos) (sTryR (csL L) fb c2) := fun W tk => by
  have tk : L2.Takes X W := tk
  refine ps_imp (L2H.ps_try_onlyX (tb := fun W' => tS X W' fb) (ts := fun _ _ _ => fun D σ H => W (.ref C2) none σ H) (Wout := W) hst hf hc hpa tk (fun W' pn xe tkn _ po => hb pn xe po W' tkn) fun a oe cls d pn hz hfl tks hot => ?_) fun Z σ H ⟨F, r, Hi, R, h⟩ => ?_
  · refine pss_imp (pss_one (L2H.ps_raiseH (X := L2H.suiteX X a ((a, oe) :: pn)) hot tks (L2N.pmk_own (X := L2H.suiteX X a ((a, oe) :: pn)) PySem.F.excBase_ValueError E.xP E.gC E.kP (raises_own (X := L2H.suiteX X a ((a, oe) :: pn)) E.bP E.tP) hg hdb))) fun D σ H h => h
  · refine ⟨F, r, Hi, R, ?_⟩
    unfold sTryR at h
    revert h
    cases fb r with
    | nx q => exact id
    | bk q => exact id
    | rt d => exact id
    | rn ds => exact id
    | bad => exact id
    | ex c q =>
      intro h σ' Hi' H' u R' s hu
      have h : Pt X W F Hi Z (match csL L c with | some true => .ex c2 q | some false => .ex c q | none => .bad) := h
      cases hk : csL L c with
      | none => rw [hk] at h; exact h.elim
      | some k =>
        rw [hk] at h
        refine ⟨k, hex_of hL c u k hk hu, fun e a ha => ?_, fun e => ?_⟩
        · subst e
          exact h σ' Hi' H' _ R' s E.gC
        · subst e
          exact h σ' Hi' H' u R' s hu
end
/-! ### an except suite that sets a name -/
def tSuK (i j : Nat) (bs1 bs2 : List Bool) (a : Addr) : TS := fun D σ H => σ[i]? = some (some (.ref a)) ∧ i ≠ j ∧ j < σ.length ∧
  ∀ p1 p2 p3, H p1 = none → (upd H p1 (.lst (bs1.map V.bl))) p2 = none → (upd (upd H p1 (.lst (bs1.map V.bl))) p2 (.lst (bs2.map V.bl))) p3 = none →
    D.nx ((σ.set j (some (.ref p1))).set j (some (.ref p3))) (upd (upd (upd H p1 (.lst (bs1.map V.bl))) p2 (.lst (bs2.map V.bl))) p3 (.lst ((bs1 ++ bs2).map V.bl)))
section
variable {X : Cx} {body suite : List Stmt} {b₀ : Stmt} {x y : Str} {np pos pos' : Pos} {cv : Value} {fb : Es} {e : Expr} {es es2 : List Expr}
theorem su_two {i j : Nat} {a : Addr} {oe : Obj} {pn : List (Addr × Obj)} {bs1 bs2 : List Bool} {s : Str} {q1 q2 q3 q4 q5 q6 q7 q8 : Pos} (hN : X.N.Nodup) (hj : X.N[j]? = some s) (hx : Loc X.env.scope s) (hv : Vis X.env.scope s) (hl1 : bs1.length ≤ 1000) (hl2 : bs2.length ≤ 1000)
    (h1 : GXs (X.suite a ((a, oe) :: pn)) i a es bs1) (h2 : GXs (X.suite a ((a, oe) :: pn)) i a es2 bs2) (hd : (s == ("__debug__" : Str)) = false := by decide) (hcd : (s == ("__classdict__" : Str)) = false := by decide)
    (hs1 : swapsWith (.List es q2) (some (.Name s q1)) q3.line (X.suite a ((a, oe) :: pn)).env = pure false := by rfl) (hs2 : swapsWith (.BinOp (.Name s q5) .Add (.List es2 q6) q7) (some (.Name s q4)) q8.line (X.suite a ((a, oe) :: pn)).env = pure false := by rfl)
    (hf : X.fn s = true ∨ X.env.scope.names.lookup s = some .local := by first | exact .inl rfl | exact .inr rfl) :
    PSs (X.suite a ((a, oe) :: pn)) [.Assign [.Name s q1] (.List es q2) q3, .Assign [.Name s q4] (.BinOp (.Name s q5) .Add (.List es2 q6) q7) q8] (tSuK i j bs1 bs2 a) := by
  refine pss_imp (pss_cons (ps_set (X := X.suite a ((a, oe) :: pn)) (i := j) hN hj hx (pe_lst h1) hs1 hf) (pss_one (ps_set (X := X.suite a ((a, oe) :: pn)) (i := j) hN hj hx (pe_op op_cat (pe_var (X := X.suite a ((a, oe) :: pn)) (i := j) hj hv hd hcd) (pe_lst h2)) hs2 hf))) fun D σ H h => ?_
  obtain ⟨hi, hne, hlj, h⟩ := h
  refine ⟨hi, by rw [List.length_map]; exact Nat.le_of_lt (small1000 hl1), fun p1 k1 => ?_⟩
  show ∃ v, (σ.set j (some (V.ref p1)))[j]? = some (some v) ∧ _
  refine ⟨.ref p1, by rw [List.getElem?_set_self hlj], ?_, by rw [List.length_map]; exact Nat.le_of_lt (small1000 hl2), fun p2 k2 => ?_⟩
  · show (σ.set j (some (V.ref p1)))[i]? = _
    rw [List.getElem?_set_ne (Ne.symm hne)]; exact hi
  · have n12 : p1 ≠ p2 := fun z => by rw [← z, upd_same] at k2; cases k2
    refine ⟨p1, p2, _, _, rfl, rfl, by rw [upd_ne n12]; exact upd_same, upd_same, by
      rw [List.length_map, List.length_map]; exact le_line (by unfold lim; omega), fun p3 k3 => ?_⟩
    rw [← List.map_append]
    exact h p1 p2 p3 k1 k2 k3
theorem gs_tK {i j n1 : Nat} {L : TL} (hs : X.stack = X.env :: X.outer) (hf : X.env.frame = some X.env.locals) (hN : X.N.Nodup) (hi : X.N[i]? = some y) (hln : X.env.kindOf y = some .local) (hc : Names X x cv)
    (hb : ∀ (pn : List (Addr × Obj)) (xe : Value → Shared → Prop), PassesOwn (model X.prog X.w) X.A X.env xe → GSs (X.tr pn xe) body fb) (hL : TLok X cv L) (hS : SUok X L (b₀ :: suite) (fun bs => tSuK i j (bs.take n1) (bs.drop n1))) :
    GS X (.Try body [.ExceptHandler (some (.Name x np)) (some y) (b₀ :: suite) pos'] [] [] pos) (sTry (csL L) fb (suK i j (bsL L))) := fun W tk =>
  ps_imp (ps_try_as (i := i) (tb := fun W => tS X W fb) (ts := tsL X L (fun bs => tSuK i j (bs.take n1) (bs.drop n1))) hs hf hN hi hln hc tk (fun W pn xe tk' po => hb pn xe po W tk') (hsu_of hS)) fun Z σ H ⟨F, r, Hi, R, h⟩ => by
    refine ⟨F, r, Hi, R, ?_⟩
    unfold sTry at h
    revert h
    cases fb r with
    | nx q => exact id
    | bk q => exact id
    | rt d => exact id
    | rn ds => exact id
    | bad => exact id
    | ex c q =>
      intro h σ' Hi' H' u R' s hu
      have h : Pt X W F Hi Z (match csL L c with | some true => noRaise (suK i j (bsL L) c q) | some false => .ex c q | none => .bad) := h
      cases hk : csL L c with
      | none => rw [hk] at h; exact h.elim
      | some k =>
        rw [hk] at h
        refine ⟨k, hex_of hL c u k hk hu, fun e a ha => ?_, fun e => ?_⟩
        · subst e
          have h : Pt X W F Hi Z (noRaise (if i < q.length ∧ j < q.length ∧ i ≠ j then .nx ((q.set j (.imm (.lst ((bsL L c).map GM.D.bl)))).set i .no) else .bad)) := h
          split at h
          · rename_i hl
            obtain ⟨hli, hlj, hne⟩ := hl
            have hqs : σ'.length = q.length := R'.len.symm
            refine hts_of (t := fun bs => tSuK i j (bs.take n1) (bs.drop n1)) c u a _ _ _ hk hu ⟨?_, hne, by rw [List.length_set, hqs]; exact hlj, fun p1 p2 p3 k1 k2 k3 => ?_⟩
            · rw [set_get, if_pos rfl, if_pos (by rw [hqs]; exact hli)]
            · rw [List.take_append_drop]
              have n12 : p2 ≠ p1 := fun z => by rw [z, upd_same] at k2; cases k2
              have n13 : p3 ≠ p2 := fun z => by rw [z, upd_same] at k3; cases k3
              rw [upd_ne n12] at k2
              rw [upd_ne n13] at k3
              have n23 : p3 ≠ p1 := fun z => by rw [z, upd_same] at k3; cases k3
              rw [upd_ne n23] at k3
              have e1 : Ext Hi' H' Hi' (upd H' p1 (.lst (((bsL L c).take n1).map V.bl))) := Ext.lst R'.sub k1
              have e2 := e1.trans (Ext.lst (o := .lst (((bsL L c).drop n1).map V.bl)) (p := p2) e1.sub (by rw [upd_ne n12]; exact k2))
              have e3 := e2.trans (Ext.lst (o := .lst ((bsL L c).map V.bl)) (p := p3) e2.sub (by rw [upd_ne n13, upd_ne n23]; exact k3))
              have h3 : Hi' p3 = none := none_hi R'.sub k3
              have e4 := e3.see k3 upd_same h3
              have R3 := (R'.ext e4).setI (i := j) (.lst upd_same (rps_bls (bsL L c)))
              have R4 := R3.wipe (ws := [i])
              have es : ((((σ'.set i (some (V.ref a))).set j (some (V.ref p1))).set j (some (V.ref p3))).set i none) = (σ'.set j (some (V.ref p3))).set i none := by
                rw [List.set_set, List.set_comm _ _ hne, List.set_set]
              show Z.nx ((((σ'.set i (some (V.ref a))).set j (some (V.ref p1))).set j (some (V.ref p3))).set i none) _
              rw [es]
              exact h _ _ _ R4 (s.trans (Sm.new h3))
          · exact h.elim
        · subst e
          exact h σ' Hi' H' u R' s hu
end
end GM

/-! GMz: lists of lists: their twin; emptied. -/
namespace GM
open PySem PySem.Spec PyProof.Rows L2
/-- a def of the program with a promise of any form -/
structure DefS (P : Program) (w : World) (K : PySem.W.Frag) (mg : Str → Option Value) (base : Heap) (x : Str) (k : Nat) (ps : List Str) (sp : Sp) : Prop where
  ex : ∃ fa fd, FnOk P w K mg base (L2.CX P w) k fa fd ps sp ∧ mg x = some (.ref fa) ∧ PySem.W.keepIn K (.ref fa) = true ∧ Binds K fd ps []
/-- all but one list stays -/
structure Grx [Tb] (b : Addr) (H H' : Hp) : Prop where
  to : ∀ c o, c ≠ b → H c = some o → NT o → H' c = some o
  fr : ∀ c, H' c = none → H c = none
  tab : Tbs H → Tbs H'
/-- what empties a list of what holds no list -/
def spE [Tb] (K : PySem.W.Frag) (G0 : List D → Ro) : Sp := fun vs H Q E => Tbs H ∧ ∃ b ys ds, vs = [.ref b] ∧ H b = some (.lst ys) ∧ Rps K H ds ys ∧ (∀ d ∈ ds, G0 [d] = .rt .non) ∧ ds.length ≤ 1000000 ∧
  ∀ H', Grx b H H' → H' b = some (.lst []) → Q .non H'
/-- the twin of a list of lists -/
def twinG (G0 : List D → Ro) (ok : D → Bool) : List D → Ro
  | [.lst rs] => if rs.all ok && decide (rs.length ≤ 1000000) then .rn rs else .bad
  | _ => .bad
variable [Tb]
theorem spF_len {K : PySem.W.Frag} {mg : Str → Option Value} {G0 : List D → Ro} {ok : D → Bool} {vs : List V} {H : Hp} {Q : VK} {E : XK} (h : spF K mg (twinG G0 ok) vs H Q E) : vs.length = 1 := by
  obtain ⟨_, ds, q, h⟩ := h
  rw [← q.length]
  match ds, h with
  | [d], _ => rfl
  | [], h => exact h.elim
  | d :: e :: r, h =>
    have : twinG G0 ok (d :: e :: r) = .bad := by unfold twinG; cases d <;> rfl
    rw [this] at h
    exact h.elim
theorem pss_no {X : Cx} {sts : List Stmt} : PSs X sts (fun _ _ _ => False) := ⟨fun _ _ _ _ _ _ h => h.elim⟩
theorem pass_no {X : Cx} (σ : L2.St) : PassesAt (L2.CX X.prog X.w) X σ (fun _ _ _ => False) := fun _ _ _ _ _ _ c => by
  obtain ⟨_, _, _, _, _, _, _, _, _, _, _, _, h⟩ := c
  exact h.elim
theorem rel_one {K : PySem.W.Frag} {H : Hp} {d : D} {v : V} {σ : L2.St} (tb : Tbs H) (hv : σ[0]? = some (some v)) (q : Rp K H d v) : Rel K ⟨H, true⟩ (startE σ.length [d]) σ H H where
  sub := Sm.refl _
  base := Sm.refl _
  tabs := tb
  mode := fun z => (by cases z)
  slot := fun i sv e => by
    rw [startE_get] at e
    by_cases h : i < [d].length
    · rw [if_pos h] at e
      have hi : i = 0 := by simpa using h
      subst hi
      cases e
      exact ⟨v, hv, q⟩
    · rw [if_neg h] at e
      split at e
      · cases e; trivial
      · cases e
  inj := fun i j di dj a _ e => by
    rw [startE_get] at e
    split at e
    · rename_i h
      have hi : i = 0 := by simpa using h
      subst hi
      cases e
    · split at e <;> cases e
  len := by
    have h0 : 0 < σ.length := (List.getElem?_eq_some_iff.mp hv).1
    unfold startE
    rw [List.length_append, List.length_map, List.length_replicate, List.length_singleton]
    omega
section
variable {X : Cx} {c e1 : Expr} {K : PySem.W.Frag} {G0 : List D → Ro} {ok : D → Bool}
/-- the reading of the twin's body -/
def tTwin (X : Cx) (G0 : List D → Ro) : TS := fun D σ H => ∃ a0 xs rs, σ[0]? = some (some (.ref a0)) ∧ 1 < σ.length ∧ H a0 = some (.lst xs) ∧ Tbs H ∧ Rps X.K H rs xs ∧ (∀ r ∈ rs, ∃ ds, r = .lst ds ∧ G0 [r] = .rn ds) ∧ rs.length ≤ 1000000 ∧
  ∀ a ys H', Gr H H' → H a = none → H' a = some (.lst ys) → Rps X.K (rm a (vw H H')) rs ys → D.rt (.ref a) H'
theorem Rps.getM {H : Hp} {ds : List D} {vs : List V} (q : Rps K H ds vs) {i : Nat} {v : V} (e : vs[i]? = some v) : ∃ d, ds[i]? = some d ∧ Rp K H d v := q.getV e
theorem pss_twin {k j : Nat} {ps : List Str} {x y z : Str} {scope : Scope} {own : List (Str × Nat)} {p1 p2 p3 p4 p5 p6 p7 p8 p9 : Pos} (hcalm : X.calm = true) (hN : X.N.Nodup) (hcond : GT X c (tNot (tOf (op1 (gIsT "list") (vI 0)))))
    (hv0 : PE X (.Name y p7) (tVar 0)) (Dk : DefOk X.prog X.w X.K X.mg X.base x j ps G0) (hr : Room k X.A) (hj : j ≤ k) (ok : BlkOk X.N X.env.scope scope own) (hown : own.map (fun (x : Str × Nat) => x.2) = [1])
    (hg : ∀ (s : Shared) (H : Hp) (C : Addr) (cl : List (Str × Addr)) (fp : List Addr), PG (X.blk s H scope (compEnvC scope cl C X.env) fp) (.Name z p6) (gName 1))
    (hv1 : ∀ (s : Shared) (H : Hp) (C : Addr) (cl : List (Str × Addr)) (fp : List Addr), PE (X.blk s H scope (compEnvC scope cl C X.env) fp) (.Name z p4) (tVar 1))
    (hgl : ∀ (s : Shared) (H : Hp) (C : Addr) (cl : List (Str × Addr)) (fp : List Addr), Gl (X.blk s H scope (compEnvC scope cl C X.env) fp) x) (hdb : (x == ("__debug__" : Str)) = false) :
    PSs X [.If c [.Return (some e1) p1] [] p2, .Return (some (.ListComp (.Call (.Name x p3) [.Name z p4] [] p5) [⟨.Name z p6, .Name y p7, [], 0⟩] scope p8)) p9] (tTwin X G0) := by
  obtain ⟨fa, fd, Fo, hm, hk, hb⟩ := Dk.ex
  refine pss_imp (pss_cons (ps_if (hcond W0 tk0) pss_no pss_nil) (pss_one (ps_ret (pe_lc (g := gName 1) (tt := L2.tYes) (te := tCallS (spF X.K X.mg G0) (fun _ _ _ _ => False) (tCons (tVar 1) tNil)) hcalm hN (pi_list hv0) ok hg (fun s H C cl fp => pts_nil)
    (fun s H C cl fp => pe_callS (X := X.blk s H scope (compEnvC scope cl C X.env) fp) (Fo.mono hj) hr (hgl s H C cl fp) hm hk hb (fun σ => pass_no σ) (pa_cons (hv1 s H C cl fp) pa_nil) hdb))))) fun D σ H h => ?_
  obtain ⟨a0, xs, rs, hσ, hl, ha0, tb, q, hrs, hlen, post⟩ := h
  -- the test
  have R0 : Rel X.K ⟨H, true⟩ (startE σ.length [.lst rs]) σ H H := rel_one tb hσ (.lst ha0 q)
  have et : tNot (tOf (op1 (gIsT "list") (vI 0))) (startE σ.length [.lst rs]) = .ok false := rfl
  refine ⟨⟨H, true⟩, _, H, R0, ?_⟩
  rw [et]
  intro Hi1 H1 e1
  show (if false = true then _ else tNext _ σ H1)
  rw [if_neg Bool.false_ne_true]
  show tLc (iList X.K (tVar 0)) (gName 1) L2.tYes (tCallS (spF X.K X.mg G0) (fun _ _ _ _ => False) (tCons (tVar 1) tNil)) (own.map (fun (x : Str × Nat) => x.2)) σ H1 D.rt
  rw [hown]
  have ha1 : H1 a0 = some (.lst xs) := e1.h.lst ha0
  refine ⟨.ref a0, hσ, a0, rfl, ⟨xs, SqL.of ha1⟩, fun L hL => ?_⟩
  have HL : H L = none := e1.h.fr L hL
  have hla : a0 ≠ L := fun z => by rw [z, hL] at ha1; cases ha1
  refine ⟨fun i m H' => m = xs.length - i ∧ i ≤ xs.length ∧ ∃ acc, H' L = some (.lst acc) ∧ acc.length = i ∧ Gr H H' ∧ Tbs H' ∧ Rps X.K (rm L (vw H H')) (rs.take i) acc, ⟨xs.length, by simp, Nat.zero_le _, [], upd_same, rfl, ⟨e1.h.updX HL, fun t => tab_upd hL (e1.tab t)⟩, tab_upd hL (e1.tab tb), .nil⟩, ?_⟩
  rintro i m H2 ⟨rfl, hi, acc, hacc, hal, g2, tb2, qa⟩
  have ha2 : H2 a0 = some (.lst xs) := g2.sm.lst ha0
  by_cases hlt : i < xs.length
  · refine .inr ⟨⟨xs, xs[i], SqL.of ha2, by simp [hlt]⟩, fun H' => ∃ acc, H' L = some (.lst acc) ∧ acc.length = i + 1 ∧ Gr H H' ∧ Tbs H' ∧ Rps X.K (rm L (vw H H')) (rs.take (i + 1)) acc,
      fun H' nx => ⟨xs.length - (i + 1), by omega, rfl, hlt, nx⟩, fun v H3 y => ?_⟩
    obtain ⟨rfl, y⟩ := y
    have hv := y xs (SqL.of ha2)
    obtain ⟨r, hr, rv⟩ := q.getV hv
    obtain ⟨ds, rfl, hG⟩ := hrs r (List.mem_of_getElem? hr)
    refine ⟨by show (((σ.set 1 none).set 1 (some v)).set 1 none) = σ.set 1 none; rw [List.set_set, List.set_set], ?_⟩
    refine ⟨v, ?_, tb2, [.lst ds], .cons (rv.same g2.sm) .nil, ?_⟩
    · show (((L2.wipe σ [1]).set 1 (some v)))[1]? = _
      rw [List.getElem?_set_self (by rw [wipe_length]; exact hl)]
    · rw [hG]
      intro b ys H4 g4 hb hys q4
      have h4 : H4 L = some (.lst acc) := g4.sm.lst hacc
      have hbL : b ≠ L := fun z => by rw [z, hacc] at hb; cases hb
      have hHb : H b = none := g2.sm.fr b hb
      have g5 : Gr H (upd H4 L (.lst (acc ++ [V.ref b]))) := ⟨(g2.trans g4).sm.updX HL, fun t => tab_lst h4 ((g2.trans g4).tab t)⟩
      have vin : Sm (rm L (vw H H3)) (rm L (vw H (upd H4 L (.lst (acc ++ [V.ref b]))))) := by
        refine ⟨fun a o e n => ?_, fun a e => ?_⟩
        · unfold rm at e ⊢
          split at e
          · cases e
          · rename_i hne
            rw [if_neg hne]
            obtain ⟨e2, e3⟩ := of_vw e
            exact vw_of (by rw [upd_ne hne]; exact g4.sm.to a o e2 n) e3
        · unfold rm at e ⊢
          split
          · rfl
          · rename_i hne
            rw [if_neg hne] at e
            unfold vw at e ⊢
            split
            · rfl
            · rename_i hn
              split at e
              · rename_i xs' hx; exact absurd hx (hn xs')
              · rw [upd_ne hne] at e; exact g4.sm.fr a e
      have vnew : Sm (rm b (vw H3 H4)) (rm L (vw H (upd H4 L (.lst (acc ++ [V.ref b]))))) := by
        refine ⟨fun a o e n => ?_, fun a e => ?_⟩
        · unfold rm at e ⊢
          split at e
          · cases e
          · obtain ⟨e2, e3⟩ := of_vw e
            have hne : a ≠ L := fun z => e3 acc (z ▸ hacc)
            rw [if_neg hne]
            exact vw_of (by rw [upd_ne hne]; exact e2) (fun xs' e => e3 xs' (g2.sm.lst e))
        · unfold rm at e ⊢
          split
          · rfl
          · unfold vw
            split
            · rfl
            · rename_i hn
              split at e
              · rename_i z; exact absurd (z ▸ hacc) (hn acc)
              · rename_i hne
                unfold vw at e
                split at e
                · rename_i xs' hx; exact absurd (g2.sm.lst hx) (hn xs')
                · rw [upd_ne hne] at e; exact e
      refine ⟨acc, h4, by rw [hal]; exact Nat.lt_of_lt_of_le (Nat.lt_of_lt_of_le hlt (by rw [← q.length]; exact hlen)) (by rw [sizeLine_eq]; decide), acc ++ [.ref b], upd_same, by rw [List.length_append, hal]; rfl, g5, tab_lst h4 (g4.tab tb2), ?_⟩
      have et : rs.take (i + 1) = rs.take i ++ [.lst ds] := by
        have hir : i < rs.length := (List.getElem?_eq_some_iff.mp hr).1
        rw [List.take_succ_eq_append_getElem hir]
        have := (List.getElem?_eq_some_iff.mp hr).2
        rw [this]
      rw [et]
      refine (qa.same vin).append (.cons (.lst (a := b) (xs := ys) ?_ ?_) .nil)
      · unfold rm
        rw [if_neg hbL]
        exact vw_of (by rw [upd_ne hbL]; exact hys) (fun xs' e => by rw [hHb] at e; cases e)
      · exact q4.same vnew
  · have ei : i = xs.length := by omega
    subst ei
    refine .inl ⟨⟨xs, SqL.of ha2, Nat.le_refl _⟩, post L acc H2 g2 HL hacc ?_⟩
    rw [List.take_of_length_le (by rw [q.length]; exact Nat.le_refl _)] at qa
    exact qa
end
section
variable {P : Program} {w : World} {K : PySem.W.Frag} {mg : Str → Option Value} {base : Heap} {G0 : List D → Ro} {ok : D → Bool}
theorem fn_twin {x qual : Str} {st : Stmt} {f : Addr} {fd : FuncData} {N ps : List Str} {k : Nat} (F : Fun K x qual st f fd) (S : FnScope N ps (defScope st)) (hps : ps.length = 1) (hN : 2 ≤ N.length)
    (hok : ∀ r, ok r = true → ∃ ds, r = .lst ds ∧ G0 [r] = .rn ds)
    (hbody : ∀ (cdv : Value) (A : Around) (outer : List PySem.Env) (s : Shared) (H : Hp) (E : XK), Room k (A.deeper (envOfC qual (defScope st) s.heap.objs.size f cdv)) → PSs (cxOf (L2.CX P w) P w K mg base N qual (defScope st) f cdv A outer s H E) (defBody st) (tTwin (cxOf (L2.CX P w) P w K mg base N qual (defScope st) f cdv A outer s H E) G0)) :
    FnOk P w K mg base (L2.CX P w) (k + 1) f fd ps (spF K mg (twinG G0 ok)) := by
  refine okX' F S (fun vs H Q E h => (spF_len h).trans hps.symm) (fun cdv _ A outer s H vs Q E hr h => ⟨_, hbody cdv A outer s H E hr, ?_⟩)
  obtain ⟨tb, ds, q, h⟩ := h
  match ds, q, h with
  | [], _, h => exact h.elim
  | d :: e :: r, _, h =>
    have : twinG G0 ok (d :: e :: r) = .bad := by unfold twinG; cases d <;> rfl
    rw [this] at h; exact h.elim
  | [d], q, h =>
    cases d with
    | lst rs =>
      have h : (match (if (rs.all ok && decide (rs.length ≤ 1000000)) = true then Ro.rn rs else Ro.bad) with | .rt d => ∀ v H', Gr H H' → Rp K (vw H H') d v → Q v H' | .rn es => ∀ a xs H', Gr H H' → H a = none → H' a = some (.lst xs) → Rps K (rm a (vw H H')) es xs → Q (.ref a) H' | .ex c => ∀ H' u, Gr H H' → mg (Str.ofString c) = some u → E u none H' | .bad => False) := h
      split at h
      · rename_i e
        split at e
        · cases e
        · cases e
      · rename_i es e
        split at e
        · rename_i hc
          cases e
          obtain ⟨h1, h2⟩ := Bool.and_eq_true_iff.mp hc
          cases q with
          | cons r t =>
            cases t
            cases r with
            | lst ha qs =>
              rename_i a0 xs
              refine ⟨a0, xs, rs, ?_, ?_, ha, tb, qs, fun r hr => hok r (List.all_eq_true.mp h1 r hr), of_decide_eq_true h2, fun a ys H' g hn hy qy => h a ys H' g hn hy qy⟩
              · rw [start_get, if_pos (by simp)]; rfl
              · show 1 < (L2.start N [V.ref a0]).length
                unfold L2.start
                rw [List.length_append, List.length_map, List.length_replicate]
                simp; omega
        · cases e
      · rename_i e; split at e <;> cases e
      · exact h.elim
    | _ => exact h.elim
end
/-! ### emptied -/
section
variable {X : Cx} {c : Expr} {G0 : List D → Ro}
def tEmp (X : Cx) (G0 : List D → Ro) : TS := fun D σ H => ∃ b ys ds, σ[0]? = some (some (.ref b)) ∧ 1 < σ.length ∧ H b = some (.lst ys) ∧ Tbs H ∧ Rps X.K H ds ys ∧ (∀ d ∈ ds, G0 [d] = .rt .non) ∧ ds.length ≤ 1000000 ∧
  ∀ σ' H', Grx b H H' → H' b = some (.lst []) → D.nx σ' H'
theorem pss_emp {k j : Nat} {ps : List Str} {x y z : Str} {p1 p2 p3 p4 p5 p6 p7 p8 p9 p10 p11 p12 p13 p14 : Pos} (hcalm : X.calm = true) (hp : PassesOwn (model X.prog X.w) X.A X.env X.xe) (hcond : GT X c (tOf (op1 (gIsT "list") (vI 0))))
    (hv0 : ∀ p, PE X (.Name y p) (tVar 0)) (hv1 : PE X (.Name z p5) (tVar 1)) (hz : PG X (.Name z p1) (gName 1)) (Dk : DefOk X.prog X.w X.K X.mg X.base x j ps G0) (hr : Room k X.A) (hj : j ≤ k) (hgl : Gl X x) (hdb : (x == ("__debug__" : Str)) = false)
    (hgL : Gl X "list") (hmL : X.mg "list" = none) (hn0 : starEach [.Name y p3] X.env = (false, eval (.Name y p3) X.env) :: starEach [] X.env) (hn1 : (backTo p4 (starEach [] X.env)).any (·.1) = false)
    (hn2 : starEach [.Name z p5] X.env = (false, eval (.Name z p5) X.env) :: starEach [] X.env) (hn3 : (backTo p7 (starEach [] X.env)).any (·.1) = false) (hs1 : swapsWith (.Call (.Name x p6) [.Name z p5] [] p7) none p8.line X.env = pure false)
    (hb1 : attributeBase (.Name y p9) "clear" X.env (eval (.Name y p9) X.env) = eval (.Name y p9) X.env) (hl1 : (p10.endLine == p11.line) = true) (hs2 : swapsWith (.Call (.Attribute (.Name y p9) "clear" p10) [] [] p11) none p12.line X.env = pure false)
    (hfs : ∀ v, foldedSetIterable (.Call (.Name "list" p2) [.Name y p3] [] p4) X.env v = pure v) :
    PSs X [.If c [.For (.Name z p1) (.Call (.Name "list" p2) [.Name y p3] [] p4) [.Expr (.Call (.Name x p6) [.Name z p5] [] p7) p8] [] p13, .Expr (.Call (.Attribute (.Name y p9) "clear" p10) [] [] p11) p12] [] p14] (tEmp X G0) := by
  obtain ⟨fa, fd, Fo, hm, hk, hb⟩ := Dk.ex
  have clr : PE X (.Call (.Attribute (.Name y p9) "clear" p10) [] [] p11) (tBM0 X.K "list" rClear (tVar 0)) := pe_bm0 PySem.F.plainAttrs_list PySem.F.slot_list_clear PySem.F.type_list_clear mt_clear (hv0 p9) hb1 hl1
  refine pss_imp (pss_one (ps_if (hcond W0 tk0) (pss_cons (ps_for (g := gName 1) hp hcalm (pi_list (pe_callTy call_list_of hgL hmL (by decide +kernel) (pa_cons (hv0 p3) pa_nil hn0) (by decide) (by decide) hn0 hn1)) hz
    (pss_one (ps_expr (pe_callS (Fo.mono hj) hr hgl hm hk hb (fun σ => pass_no σ) (pa_cons hv1 pa_nil hn2) hdb hn2 hn3) hs1)) hfs) (pss_one (ps_expr clr hs2))) pss_nil)) fun D σ H h => ?_
  obtain ⟨b, ys, ds, hσ, hl, hb0, tb, q, hds, hlen, post⟩ := h
  have R0 : Rel X.K ⟨H, true⟩ (startE σ.length [.lst ds]) σ H H := rel_one tb hσ (.lst hb0 q)
  have et : tOf (op1 (gIsT "list") (vI 0)) (startE σ.length [.lst ds]) = .ok true := rfl
  refine ⟨⟨H, true⟩, _, H, R0, ?_⟩
  rw [et]
  intro Hi1 H1 e1
  show (if true = true then _ else _)
  rw [if_pos rfl]
  have hb1 : H1 b = some (.lst ys) := e1.h.lst hb0
  show ∃ v, σ[0]? = some (some v) ∧ _
  refine ⟨.ref b, hσ, b, ys, rfl, .inl (SqL.of hb1), fun l hl2 => ?_⟩
  have hlb : b ≠ l := fun z => by rw [z, hl2] at hb1; cases hb1
  have Hl : H l = none := e1.h.fr l hl2
  have g1 : Gr H (upd H1 l (.lst ys)) := ⟨e1.h.updX Hl, fun t => tab_upd hl2 (e1.tab t)⟩
  refine ⟨l, rfl, ⟨ys, SqL.of upd_same⟩, fun i m σ' H' => m = ys.length - i ∧ i ≤ ys.length ∧ σ'[0]? = some (some (V.ref b)) ∧ 1 < σ'.length ∧ H' l = some (.lst ys) ∧ Gr H H' ∧ Tbs H', ⟨ys.length, by simp, Nat.zero_le _, hσ, hl, upd_same, g1, g1.tab tb⟩, ?_⟩
  rintro i m σ2 H2 ⟨rfl, hi, s0, sl, hl3, g2, tb2⟩
  by_cases hlt : i < ys.length
  · refine .inr ⟨⟨ys, ys[i], SqL.of hl3, by simp [hlt]⟩, fun σ' H' => σ'[0]? = some (some (V.ref b)) ∧ 1 < σ'.length ∧ H' l = some (.lst ys) ∧ Gr H H' ∧ Tbs H', fun σ' H' nx => ⟨ys.length - (i + 1), by omega, rfl, hlt, nx⟩, fun v H3 yd => ?_⟩
    obtain ⟨rfl, yd⟩ := yd
    have hv := yd ys (SqL.of hl3)
    obtain ⟨d, hd, rv⟩ := q.getV hv
    show ∃ u, (σ2.set 1 (some v))[1]? = some (some u) ∧ _
    refine ⟨v, by rw [List.getElem?_set_self sl], tb2, [d], .cons (rv.same g2.sm) .nil, ?_⟩
    rw [hds d (List.mem_of_getElem? hd)]
    intro u H4 g4 _
    refine ⟨?_, by rw [List.length_set]; exact sl, g4.sm.lst hl3, g2.trans g4, g4.tab tb2⟩
    rw [List.getElem?_set_ne (by decide)]; exact s0
  · refine .inl ⟨⟨ys, SqL.of hl3, by omega⟩, ?_⟩
    have hb2 : H2 b = some (.lst ys) := g2.sm.lst hb0
    show ∃ v, σ2[0]? = some (some v) ∧ _
    refine ⟨.ref b, s0, .inl ⟨rfl, ys, SqL.of hb2⟩, b, ys, rfl, rfl, hb2, post _ _ ⟨fun a o n e z => ?_, fun a e => ?_, fun t => tab_lst hb2 (g2.tab t)⟩ upd_same⟩
    · rw [upd_ne n]; exact g2.sm.to a o e z
    · by_cases n : a = b
      · subst n; rw [upd_same] at e; cases e
      · rw [upd_ne n] at e; exact g2.sm.fr a e
end
section
variable {P : Program} {w : World} {K : PySem.W.Frag} {mg : Str → Option Value} {base : Heap} {G0 : List D → Ro}
theorem fn_emp {x qual : Str} {st : Stmt} {f : Addr} {fd : FuncData} {N ps : List Str} {k : Nat} (F : Fun K x qual st f fd) (S : FnScope N ps (defScope st)) (hps : ps.length = 1) (hN : 2 ≤ N.length)
    (hbody : ∀ (cdv : Value) (A : Around) (outer : List PySem.Env) (s : Shared) (H : Hp) (E : XK), Room k (A.deeper (envOfC qual (defScope st) s.heap.objs.size f cdv)) → PSs (cxOf (L2.CX P w) P w K mg base N qual (defScope st) f cdv A outer s H E) (defBody st) (tEmp (cxOf (L2.CX P w) P w K mg base N qual (defScope st) f cdv A outer s H E) G0)) :
    FnOk P w K mg base (L2.CX P w) (k + 1) f fd ps (spE K G0) := by
  refine okX' F S (fun vs H Q E h => ?_) (fun cdv _ A outer s H vs Q E hr h => ⟨_, hbody cdv A outer s H E hr, ?_⟩)
  · obtain ⟨_, b, ys, ds, rfl, _⟩ := h
    exact hps.symm
  · obtain ⟨tb, b, ys, ds, rfl, hb, q, hds, hl, post⟩ := h
    refine ⟨b, ys, ds, ?_, ?_, hb, tb, q, hds, hl, fun σ' H' g hb' => post H' g hb'⟩
    · rw [start_get, if_pos (by simp)]; rfl
    · show 1 < (L2.start N [V.ref b]).length
      unfold L2.start
      rw [List.length_append, List.length_map, List.length_replicate]
      simp; omega
end
/-! ### a def that is handed no list -/
def tS0 (X : Cx) (W : WX) (g : Es) : TS := fun D σ H => ∃ F r Hi, F.m = false ∧ Rel X.K F r σ Hi H ∧ Pt X W F Hi D (g r)
def GSs0 (X : Cx) (sts : List Stmt) (g : Es) : Prop := ∀ W : WX, L2.Takes X W → PSs X sts (tS0 X W g)
theorem gss_cons0 {X : Cx} {st : Stmt} {sts : List Stmt} {ga gb : Es} (h1 : GS X st ga) (h2 : GSs0 X sts gb) : GSs0 X (st :: sts) (sSeq ga gb) := fun W tk => pss_imp (pss_cons (h1 W tk) (h2 W tk)) fun D σ H ⟨F, r, Hi, hm, R, h⟩ => by
  refine ⟨F, r, Hi, R, ?_⟩
  unfold sSeq at h
  revert h
  cases ga r with
  | nx q => exact fun h σ' Hi' H' R' s => ⟨F, q, Hi', hm, R', h.same s⟩
  | bk q => exact id
  | rt d => exact id
  | rn ds => exact id
  | ex c q => exact id
  | bad => exact id
section
variable {P : Program} {w : World} {K : PySem.W.Frag} {mg : Str → Option Value} {base : Heap}
theorem fn_ok00 {x qual : Str} {st : Stmt} {f : Addr} {fd : FuncData} {N ps : List Str} {k : Nat} {b : Es} (F : Fun K x qual st f fd) (S : FnScope N ps (defScope st))
    (hbody : ∀ (cdv : Value) (A : Around) (outer : List PySem.Env) (s : Shared) (H : Hp) (E : XK), Room k (A.deeper (envOfC qual (defScope st) s.heap.objs.size f cdv)) → GSs0 (cxOf (L2.CX P w) P w K mg base N qual (defScope st) f cdv A outer s H E) (defBody st) b) :
    FnOk P w K mg base (L2.CX P w) (k + 1) f fd ps (spF K mg (runF false N.length ps.length b)) := by
  refine okX' F S (fun vs H Q E h => ?_) (fun cdv _ A outer s H vs Q E hr h => ?_)
  · obtain ⟨tb, ds, q, h⟩ := h
    rw [← q.length]
    by_cases e : ds.length = ps.length
    · exact e
    · rw [runF_len e] at h; exact h.elim
  · obtain ⟨tb, ds, q, h⟩ := h
    by_cases hl : ds.length = ps.length
    · cases hn : noLs ds with
      | false => rw [runF_n hn] at h; exact h.elim
      | true =>
        rw [runF_f hl hn] at h
        refine ⟨_, hbody cdv A outer s H E hr (fun cls d _ H => E cls d H) (L2.takes_of rfl rfl rfl rfl), ⟨H, false⟩, startE N.length ds, lo H, rfl, rel_start (F := ⟨H, false⟩) tb lo_sub (fun _ a xs e => by show lo H a = none; unfold lo; rw [show H a = some (.lst xs) from e]) (noLs_to hn q fun b o e t _ => lo_nl b o e t), ?_⟩
        have h : (match endF false (b (startE N.length ds)) with | .rt d => ∀ v H', Gr H H' → Rp K (vw H H') d v → Q v H' | .rn es => ∀ a xs H', Gr H H' → H a = none → H' a = some (.lst xs) → Rps K (rm a (vw H H')) es xs → Q (.ref a) H' | .ex c => ∀ H' u, Gr H H' → mg (Str.ofString c) = some u → E u none H' | .bad => False) := h
        revert h
        cases b (startE N.length ds) with
        | nx r => exact fun h σ' Hi' H' R _ => h .non H' R.gr .non
        | bk r => exact fun h => h.elim
        | rt d => exact fun h => ⟨rfl, h⟩
        | rn ds => exact fun h => ⟨rfl, h⟩
        | ex c r => exact fun h σ' Hi' H' u R _ hu => h H' u R.gr hu
        | bad => exact fun h => h.elim
    · rw [runF_len hl] at h; exact h.elim
end
/-! ### a twin, and the lists emptied -/
/-- rows at some addresses may change -/
structure Gx (rowAt : Addr → Prop) (H H' : Hp) : Prop where
  to : ∀ c o, ¬ rowAt c → H c = some o → NT o → H' c = some o
  fr : ∀ c, H' c = none → H c = none
theorem lst_nt {xs : List V} : NT (.lst xs) := fun _ z => nomatch z
section
variable {X : Cx} {gb : Es} {rest : List Stmt} {G0 Ge : List D → Ro}
theorem flat_no {K : PySem.W.Frag} {H : Hp} {d : D} {a : Addr} {xs : List V} (hf : flatD d = true) (h : Rp K H d (.ref a)) (ha : H a = some (.lst xs)) : False := by
  cases h with
  | tup h _ => rw [h] at ha; cases ha
  | lst _ _ => cases hf
  | scr _ => cases hf
  | fn _ _ _ _ => cases hf
theorem flat_noL : ∀ {ds : List D}, ds.all flatD = true → noLs ds = true
  | [], _ => rfl
  | d :: ds, h => by
    rw [List.all_cons, Bool.and_eq_true] at h
    show (noL d && noLs ds) = true
    rw [flat_noL h.2, Bool.and_true]
    cases d with
    | tup es => exact h.1
    | non => rfl
    | bl _ => rfl
    | int _ => rfl
    | str _ => rfl
    | lst _ => cases h.1
    | scr _ => rfl
    | fn _ _ => cases h.1
theorem gss_mid {kk jt je i j k : Nat} {psT psE : List Str} {tw em due rows row : Str} {q1 q2 q3 q4 q5 q6 q7 q8 q9 q10 q11 q12 : Pos} (hcalm : X.calm = true) (hp : PassesOwn (model X.prog X.w) X.A X.env X.xe) (hN : X.N.Nodup) (hj : X.N[j]? = some due) (hx : Loc X.env.scope due)
    (hvi : ∀ p, PE X (.Name rows p) (tVar i)) (hvk : PE X (.Name row q9) (tVar k)) (hgk : PG X (.Name row q6) (gName k)) (Dt : DefOk X.prog X.w X.K X.mg X.base tw jt psT (twinG G0 rowD)) (De : DefS X.prog X.w X.K X.mg X.base em je psE (spE X.K Ge)) (hr : Room kk X.A) (hjt : jt ≤ kk) (hje : je ≤ kk)
    (hGe : ∀ d, flatD d = true → Ge [d] = .rt .non) (hgt : Gl X tw) (hge : Gl X em) (hd1 : (tw == ("__debug__" : Str)) = false) (hd2 : (em == ("__debug__" : Str)) = false)
    (hn1 : starEach [.Name rows q3] X.env = (false, eval (.Name rows q3) X.env) :: starEach [] X.env) (hn2 : (backTo q4 (starEach [] X.env)).any (·.1) = false) (hn3 : starEach [.Name row q9] X.env = (false, eval (.Name row q9) X.env) :: starEach [] X.env) (hn4 : (backTo q10 (starEach [] X.env)).any (·.1) = false)
    (hs1 : swapsWith (.Call (.Name tw q2) [.Name rows q3] [] q4) (some (.Name due q1)) q5.line X.env = pure false) (hs2 : swapsWith (.Call (.Name em q8) [.Name row q9] [] q10) none q11.line X.env = pure false) (hfl : X.fn due = true ∨ X.env.scope.names.lookup due = some .local)
    (hfs : ∀ v, foldedSetIterable (.Name rows q7) X.env v = pure v) (h2 : GSs X rest gb) :
    GSs0 X (.Assign [.Name due q1] (.Call (.Name tw q2) [.Name rows q3] [] q4) q5 :: .For (.Name row q6) (.Name rows q7) [.Expr (.Call (.Name em q8) [.Name row q9] [] q10) q11] [] q12 :: rest) (sMidR i j k gb) := fun W tk => by
  obtain ⟨ft, fdt, Ft, hmt, hkt, hbt⟩ := Dt.ex
  obtain ⟨fe, fde, Fe, hme, hke, hbe⟩ := De.ex
  refine pss_imp (pss_cons (ps_set (i := j) hN hj hx (pe_callS (Ft.mono hjt) hr hgt hmt hkt hbt (fun σ => pass_no σ) (pa_cons (hvi q3) pa_nil hn1) hd1 hn1 hn2) hs1 hfl) (pss_cons (ps_for (g := gName k) hp hcalm (pi_list (hvi q7)) hgk
    (pss_one (ps_expr (pe_callS (Fe.mono hje) hr hge hme hke hbe (fun σ => pass_no σ) (pa_cons hvk pa_nil hn3) hd2 hn3 hn4) hs2)) hfs) (h2 W tk))) fun D σ H ⟨F, r, Hi, hm, R, h⟩ => ?_
  unfold sMidR at h
  split at h
  · rename_i rs hri
    split at h
    · rename_i hc
      obtain ⟨hc, hd⟩ := Bool.and_eq_true_iff.mp hc
      obtain ⟨hc, hrest⟩ := Bool.and_eq_true_iff.mp hc
      obtain ⟨hrows, hlen⟩ := Bool.and_eq_true_iff.mp hc
      obtain ⟨hij, hik, hjk, hjl, hkl⟩ := of_decide_eq_true hd
      have hlen := of_decide_eq_true hlen
      obtain ⟨v, hσ, hv⟩ := R.slot i _ hri
      cases hv with
      | @lst a0 xs _ ha qi =>
      have rowOf : ∀ (idx : Nat) (x : V), xs[idx]? = some x → ∃ b ds ys, x = .ref b ∧ rs[idx]? = some (.lst ds) ∧ ds.all flatD = true ∧ ds.length ≤ 1000000 ∧ Hi b = some (.lst ys) ∧ Rps X.K Hi ds ys := fun idx x hx => by
        obtain ⟨d, hd, rd⟩ := qi.getV hx
        have hok := List.all_eq_true.mp hrows d (List.mem_of_getElem? hd)
        cases d with
        | lst ds =>
          obtain ⟨o1, o2⟩ := Bool.and_eq_true_iff.mp (show (ds.all flatD && decide (ds.length ≤ 1000000)) = true from hok)
          cases rd with
          | lst hb qb => exact ⟨_, ds, _, rfl, hd, o1, of_decide_eq_true o2, hb, qb⟩
        | _ => cases hok
      have rowHi : ∀ b, V.ref b ∈ xs → ∃ ys, Hi b = some (.lst ys) := fun b hb => by
        obtain ⟨idx, hidx⟩ := List.getElem?_of_mem hb
        obtain ⟨b', ds, ys, e, _, _, _, h1, _⟩ := rowOf idx _ hidx
        cases e
        exact ⟨ys, h1⟩
      have rowH : ∀ b, V.ref b ∈ xs → ∃ ys, H b = some (.lst ys) := fun b hb => (rowHi b hb).elim fun ys e => ⟨ys, R.sub.lst e⟩
      have na0 : V.ref a0 ∉ xs := fun hb => by
        obtain ⟨idx, hidx⟩ := List.getElem?_of_mem hb
        obtain ⟨b', ds, ys, e, hrd, hfl, _, h1, h2⟩ := rowOf idx _ hidx
        cases e
        rw [ha] at h1
        cases h1
        obtain ⟨d, hd, rd⟩ := h2.getV hidx
        exact flat_no (List.all_eq_true.mp hfl d (List.mem_of_getElem? hd)) rd ha
      have etw : twinG G0 rowD [.lst rs] = .rn rs := by
        show (if (rs.all rowD && decide (rs.length ≤ 1000000)) = true then Ro.rn rs else Ro.bad) = _
        rw [hrows, decide_eq_true hlen]; rfl
      refine ⟨.ref a0, hσ, R.tabs, [.lst rs], .cons (.lst (R.sub.lst ha) (qi.same R.sub)) .nil, ?_⟩
      rw [etw]
      intro a ys H1 g1 haN hys qa
      have hlσ : i < σ.length ∧ j < σ.length ∧ k < σ.length := by
        rw [← R.len]; exact ⟨(List.getElem?_eq_some_iff.mp hri).1, hjl, hkl⟩
      have hσ1 : (σ.set j (some (V.ref a)))[i]? = some (some (V.ref a0)) := by rw [List.getElem?_set_ne (Ne.symm hij)]; exact hσ
      show ∃ v, (σ.set j (some (V.ref a)))[i]? = some (some v) ∧ _
      have ha1 : H1 a0 = some (.lst xs) := g1.sm.lst (R.sub.lst ha)
      refine ⟨.ref a0, hσ1, a0, rfl, ⟨xs, SqL.of ha1⟩, fun n m σ' H' => m = xs.length - n ∧ n ≤ xs.length ∧ (∀ idx, idx ≠ k → σ'[idx]? = (σ.set j (some (V.ref a)))[idx]?) ∧ σ'.length = σ.length ∧ Gx (fun c => V.ref c ∈ xs) H1 H' ∧ Tbs H' ∧
        (∀ (idx : Nat) (b : Addr) (ds : List GM.D), xs[idx]? = some (V.ref b) → rs[idx]? = some (.lst ds) → ∃ ys ds', H' b = some (.lst ys) ∧ Rps X.K H' ds' ys ∧ ds'.all flatD = true ∧ ds'.length ≤ 1000000),
        ⟨xs.length, by simp, Nat.zero_le _, fun _ _ => rfl, by rw [List.length_set], ⟨fun _ _ _ e _ => e, fun _ e => e⟩, g1.tab R.tabs, fun idx b ds hx hd => ?_⟩, ?_⟩
      · obtain ⟨b', ds', ys', e, hd', f1, f2, h1, h2⟩ := rowOf idx _ hx
        cases e
        exact ⟨ys', ds', g1.sm.lst (R.sub.lst h1), (h2.same R.sub).same g1.sm, f1, f2⟩
      rintro n m σ2 H2 ⟨rfl, hn, hσ2, hl2, gx, tb2, hrow⟩
      have ha2 : H2 a0 = some (.lst xs) := gx.to a0 _ na0 ha1 lst_nt
      by_cases hlt : n < xs.length
      · refine .inr ⟨⟨xs, xs[n], SqL.of ha2, by simp [hlt]⟩, fun σ' H' => (∀ idx, idx ≠ k → σ'[idx]? = (σ.set j (some (V.ref a)))[idx]?) ∧ σ'.length = σ.length ∧ Gx (fun c => V.ref c ∈ xs) H1 H' ∧ Tbs H' ∧
          (∀ (idx : Nat) (b : Addr) (ds : List GM.D), xs[idx]? = some (V.ref b) → rs[idx]? = some (.lst ds) → ∃ ys ds', H' b = some (.lst ys) ∧ Rps X.K H' ds' ys ∧ ds'.all flatD = true ∧ ds'.length ≤ 1000000), fun σ' H' nx => ⟨xs.length - (n + 1), by omega, rfl, hlt, nx⟩, fun u H3 yd => ?_⟩
        obtain ⟨rfl, yd⟩ := yd
        have hu := yd xs (SqL.of ha2)
        obtain ⟨b, ds, _, rfl, hrd, _, _, _, _⟩ := rowOf n u hu
        obtain ⟨ys', ds', hb', qb', fl', len'⟩ := hrow n b ds hu hrd
        have hbm : V.ref b ∈ xs := List.mem_of_getElem? hu
        show ∃ u, (σ2.set k (some (V.ref b)))[k]? = some (some u) ∧ _
        refine ⟨.ref b, by rw [List.getElem?_set_self (by rw [hl2]; exact hlσ.2.2)], tb2, b, ys', ds', rfl, hb', qb', fun d hd => hGe d (List.all_eq_true.mp fl' d hd), len', fun H4 g4 hb4 => ⟨fun idx hne => ?_, by rw [List.length_set]; exact hl2, ⟨fun c o nc e nt => ?_, fun c e => gx.fr c (g4.fr c e)⟩, g4.tab tb2, fun idx b2 ds2 hx2 hd2 => ?_⟩⟩
        · rw [List.getElem?_set_ne (Ne.symm hne)]; exact hσ2 idx hne
        · exact g4.to c o (fun z => nc (z ▸ hbm)) (gx.to c o nc e nt) nt
        · by_cases hb2 : b2 = b
          · subst hb2
            exact ⟨[], [], hb4, .nil, rfl, Nat.zero_le _⟩
          · obtain ⟨ys2, ds3, h3, q3', f3, l3⟩ := hrow idx b2 ds2 hx2 hd2
            exact ⟨ys2, ds3, g4.to b2 _ hb2 h3 lst_nt, noLs_to (flat_noL f3) q3' (fun c o e t nt => g4.to c o (fun z => by rw [z, hb'] at e; cases e; exact t _ rfl) e nt), f3, l3⟩
      · refine .inl ⟨⟨xs, SqL.of ha2, by omega⟩, ?_⟩
        -- the view without the lists that stood ahead
        have nrow : ∀ c, (∀ ys, H c ≠ some (.lst ys)) → V.ref c ∉ xs := fun c hne hm' => (rowH c hm').elim fun ys e => hne ys e
        have hvw : Sm (rm a (vw H H1)) (vw H H2) := by
          refine ⟨fun c o e nt => ?_, fun c e => ?_⟩
          · unfold rm at e
            split at e
            · cases e
            · obtain ⟨e2, e3⟩ := of_vw e
              exact vw_of (gx.to c o (nrow c e3) e2 nt) e3
          · unfold rm
            split
            · rfl
            · unfold vw at e ⊢
              split
              · rfl
              · rename_i hne
                split at e
                · rename_i ys' hy; exact absurd hy (hne ys')
                · exact gx.fr c e
        have haV : vw H H2 a = some (.lst ys) := vw_of (gx.to a _ (nrow a fun ys' e => by rw [haN] at e; cases e) hys lst_nt) fun ys' e => by rw [haN] at e; cases e
        have R2 : Rel X.K F (((r.set j (.imm (.lst rs))).set i .no).set k .no) σ2 (vw H H2) H2 := by
          refine ⟨same_vw, ⟨fun c o e nt => ?_, fun c e => R.base.fr c (g1.sm.fr c (gx.fr c e))⟩, tb2, fun _ c ys' e => ?_, fun idx sv e => ?_, fun p1 p2 d1 d2 c _ e => ?_, ?_⟩
          · have hH := R.base.to c o e nt
            refine gx.to c o (fun hm' => ?_) (g1.sm.to c o hH nt) nt
            obtain ⟨ys', hy⟩ := rowHi c hm'
            have : H c = some (.lst ys') := R.sub.lst hy
            rw [hH] at this
            cases this
            have := R.mode hm c ys' e
            rw [hy] at this; cases this
          · unfold vw
            rw [R.base.lst e]
          · rw [set_get] at e
            split at e
            · split at e
              · cases e; trivial
              · cases e
            · rename_i hki
              rw [set_get] at e
              split at e
              · split at e
                · cases e; trivial
                · cases e
              · rename_i hii
                rw [set_get] at e
                split at e
                · rename_i hji
                  subst hji
                  have e' : sv = .imm (.lst rs) := by split at e <;> first | (cases e; rfl) | cases e
                  subst e'
                  refine ⟨.ref a, ?_, .lst haV (qa.same hvw)⟩
                  rw [hσ2 j (Ne.symm hki), List.getElem?_set_self hlσ.2.1]
                · rename_i hji
                  have hr' := List.all_eq_true.mp hrest sv (List.mem_of_getElem? (i := idx) (by rw [List.getElem?_set_ne hii]; exact e))
                  cases sv with
                  | no => trivial
                  | own ds => cases hr'
                  | imm d =>
                    obtain ⟨u, hu, ru⟩ := R.slot idx _ e
                    refine ⟨u, ?_, ?_⟩
                    · rw [hσ2 idx (Ne.symm hki), List.getElem?_set_ne hji]; exact hu
                    · have hd : noLs [d] = true := by show (noL d && true) = true; rw [show noL d = true from hr']; rfl
                      have := noLs_to (B := vw H H2) hd (.cons ru .nil) fun c o e t nt => by
                        have hH := R.sub.to c o e nt
                        have hnl : ∀ ys, H c ≠ some (.lst ys) := fun ys z => by rw [hH] at z; cases z; exact t _ rfl
                        exact vw_of (gx.to c o (nrow c hnl) (g1.sm.to c o hH nt) nt) hnl
                      cases this with
                      | cons a b => exact a
          · rw [set_get] at e
            split at e
            · split at e <;> cases e
            · rw [set_get] at e
              split at e
              · split at e <;> cases e
              · rename_i hii
                rw [set_get] at e
                split at e
                · split at e <;> cases e
                · have hr' := List.all_eq_true.mp hrest _ (List.mem_of_getElem? (i := p1) (by rw [List.getElem?_set_ne hii]; exact e))
                  cases hr'
          · rw [List.length_set, List.length_set, List.length_set, R.len, hl2]
        refine ⟨F, _, _, R2, ?_⟩
        revert h
        cases gb (((r.set j (.imm (.lst rs))).set i .no).set k .no) with
        | rt d => exact id
        | rn ds => exact id
        | nx q => exact fun h => h.elim
        | bk q => exact fun h => h.elim
        | ex c q => exact fun h => h.elim
        | bad => exact fun h => h.elim
    · exact h.elim
  · exact h.elim
end
end GM

/-! GPa: lemmas about the mirror's combinators; no program in sight. -/
namespace GP
open GM
section
variable {α β : Type} {g : Tg} {t : Et} {e : Ee} {b : Es} {r : Env}
theorem lcGo_map (inj : α → D) (keep : α → Bool) (F : α → D) : ∀ (xs : List α), (∀ x ∈ xs, ∃ r1, g (inj x) r = .ok r1 ∧ t r1 = .ok (keep x) ∧ (keep x = true → e r1 = .ok (F x))) → lcGo g t e r (xs.map inj) = .ok ((xs.filter keep).map F)
  | [], _ => rfl
  | x :: xs, h => by
    obtain ⟨r1, h1, h2, h3⟩ := h x List.mem_cons_self
    have ih := lcGo_map inj keep F xs fun y hy => h y (List.mem_cons_of_mem _ hy)
    rw [List.map_cons]
    unfold lcGo
    rw [h1, Rs.calm_ok, Rs.bind_ok, h2, Rs.calm_ok, Rs.bind_ok]
    cases hk : keep x with
    | true => rw [if_pos rfl, h3 hk, Rs.calm_ok, Rs.bind_ok, ih, Rs.bind_ok, List.filter_cons, if_pos hk, List.map_cons]
    | false => rw [if_neg Bool.false_ne_true, ih, List.filter_cons, if_neg (by rw [hk]; exact Bool.false_ne_true)]
/-- without a test -/
theorem lcGo_all (inj : α → D) (F : α → D) (xs : List α) (h : ∀ x ∈ xs, ∃ r1, g (inj x) r = .ok r1 ∧ e r1 = .ok (F x)) : lcGo g tYes e r (xs.map inj) = .ok (xs.map F) := by
  rw [lcGo_map inj (fun _ => true) F xs fun x hx => by
    obtain ⟨r1, h1, h2⟩ := h x hx
    exact ⟨r1, h1, rfl, fun _ => h2⟩]
  rw [List.filter_eq_self.mpr fun _ _ => rfl]
theorem forGo_ind (inj : α → D) (I : List α → Env → Prop) : ∀ (xs pre : List α) (r : Env), I pre r →
    (∀ done x rest r, pre ++ xs = done ++ x :: rest → pre.length ≤ done.length → I done r → ∃ r1 q, g (inj x) r = .ok r1 ∧ b r1 = .nx q ∧ I (done ++ [x]) q) → ∃ q, forGo g b (xs.map inj) r = .nx q ∧ I (pre ++ xs) q
  | [], pre, r, h0, _ => ⟨r, rfl, by rw [List.append_nil]; exact h0⟩
  | x :: xs, pre, r, h0, hs => by
    obtain ⟨r1, q, h1, h2, h3⟩ := hs pre x xs r rfl (Nat.le_refl _) h0
    obtain ⟨q', h4, h5⟩ := forGo_ind inj I xs (pre ++ [x]) q h3 fun done y rest r e hl hI => hs done y rest r (by simpa using e) (by simp at hl; omega) hI
    refine ⟨q', ?_, by simpa using h5⟩
    rw [List.map_cons]
    unfold forGo
    rw [h1]
    show (match b r1 with | .nx q => forGo g b (xs.map inj) q | .bk q => .nx q | o => o) = .nx q'
    rw [h2]
    exact h4
theorem forGo_inv (inj : α → D) (I : List α → Env → Prop) (xs : List α) (r : Env) (h0 : I [] r)
    (hs : ∀ done x rest r, xs = done ++ x :: rest → I done r → ∃ r1 q, g (inj x) r = .ok r1 ∧ b r1 = .nx q ∧ I (done ++ [x]) q) : ∃ q, forGo g b (xs.map inj) r = .nx q ∧ I xs q :=
  forGo_ind inj I xs [] r h0 fun done x rest r e _ hI => hs done x rest r e hI
theorem whGo_mono {t : Et} {b : Es} : ∀ {n : Nat} {r : Env} {o : So} (k : Nat), whGo t b n r = o → o ≠ .bad → whGo t b (n + k) r = o
  | 0, r, o, k, h, ne => absurd h.symm ne
  | n + 1, r, o, k, h, ne => by
    rw [Nat.add_right_comm]
    unfold whGo at h ⊢
    revert h
    cases t r with
    | ok c =>
      cases c with
      | false => exact id
      | true =>
        show (match b r with | .nx q => whGo t b n q | .bk q => .nx q | o => o) = o → (match b r with | .nx q => whGo t b (n + k) q | .bk q => .nx q | o => o) = o
        cases b r with
        | nx q => exact fun h => whGo_mono k h ne
        | bk q => exact id
        | rt d => exact id
        | rn ds => exact id
        | ex c q => exact id
        | bad => exact id
    | ex c => exact id
    | bad => exact id
theorem whGo_fuel {t : Et} {b : Es} {n : Nat} {r : Env} {o : So} (h : whGo t b n r = o) (ne : o ≠ .bad) (hn : n ≤ fuel) : whGo t b fuel r = o := by
  obtain ⟨k, e⟩ := Nat.exists_eq_add_of_le hn
  rw [e]
  exact whGo_mono k h ne
end
/-! ### one turn -/
theorem nr {α : Type} {a b : α} (h : a = b) : a = b := h
def capC {α : Type} (n : Nat) (k : Rs α) : Rs α := if n ≤ lim then k else .bad
def capS (n : Nat) (k : So) : So := if n < lim then k else .bad
@[simp] theorem capC_ok {α : Type} {n : Nat} {k : Rs α} (h : n ≤ 100000) : capC n k = k := if_pos (by unfold lim; omega)
@[simp] theorem capS_ok {n : Nat} {k : So} (h : n ≤ 100000) : capS n k = k := if_pos (by unfold lim; omega)
@[simp] theorem vI_s (i : Nat) (r : Env) : vI i r = (match r[i]? with | some (.imm d) => .ok d | _ => .bad) := nr rfl
@[simp] theorem vO_s (i : Nat) (r : Env) : vO i r = (match r[i]? with | some (.own d) => .ok (.lst d) | _ => .bad) := nr rfl
@[simp] theorem cst_s (d : D) (r : Env) : cst d r = .ok d := nr rfl
@[simp] theorem op1_s (g : D → Rs D) (a : Ee) (r : Env) : op1 g a r = (a r).bind g := nr rfl
@[simp] theorem op2_s (g : D → D → Rs D) (a b : Ee) (r : Env) : op2 g a b r = (a r).bind fun x => (b r).bind fun y => g x y := nr rfl
@[simp] theorem toE_s (a : En) (r : Env) : toE a r = (a r).map D.lst := nr rfl
@[simp] theorem eAnd_s (a b : Ee) (r : Env) : eAnd a b r = (a r).bind fun x => (asB x).bind fun c => if c then b r else .ok (.bl false) := nr rfl
@[simp] theorem eOr_s (a b : Ee) (r : Env) : eOr a b r = (a r).bind fun x => (asB x).bind fun c => if c then .ok (.bl true) else b r := nr rfl
@[simp] theorem eNot_s (a : Ee) (r : Env) : eNot a r = (a r).bind fun x => (asB x).bind fun c => .ok (.bl (!c)) := nr rfl
@[simp] theorem asB_s (b : Bool) : asB (.bl b) = .ok b := nr rfl
@[simp] theorem eChain_s (g h : D → D → Rs D) (a b c : Ee) (r : Env) : eChain g h a b c r = (a r).bind fun x => (b r).bind fun y => (g x y).bind fun u => (asB u).bind fun k => if k then (c r).bind fun z => h y z else .ok (.bl false) := nr rfl
@[simp] theorem tOf_s (a : Ee) (r : Env) : tOf a r = (a r).bind truth := nr rfl
@[simp] theorem tBl_s (a : Ee) (r : Env) : tBl a r = (a r).bind asB := nr rfl
@[simp] theorem tNot_s (t : Et) (r : Env) : tNot t r = (t r).map fun b => !b := nr rfl
@[simp] theorem tAnd_s (t u : Et) (r : Env) : tAnd t u r = (t r).bind fun b => if b then u r else .ok false := nr rfl
@[simp] theorem tOr_s (t u : Et) (r : Env) : tOr t u r = (t r).bind fun b => if b then .ok true else u r := nr rfl
@[simp] theorem tYes_s (r : Env) : tYes r = .ok true := nr rfl
@[simp] theorem aNil_s (r : Env) : aNil r = .ok [] := nr rfl
@[simp] theorem aCons_s (e : Ee) (a : En) (r : Env) : aCons e a r = (e r).bind fun x => (a r).bind fun xs => .ok (x :: xs) := nr rfl
@[simp] theorem eTup_s (a : En) (r : Env) : eTup a r = (a r).bind fun xs => capC xs.length (.ok (.tup xs)) := nr rfl
@[simp] theorem nLst_s (a : En) (r : Env) : nLst a r = (a r).bind fun xs => capC xs.length (.ok xs) := nr rfl
@[simp] theorem roE_rt (d : D) : roE (.rt d) = .ok d := nr rfl
@[simp] theorem roE_rn (d : List D) : roE (.rn d) = .ok (.lst d) := nr rfl
@[simp] theorem roE_ex (c : String) : roE (.ex c) = .ex c := nr rfl
@[simp] theorem roN_rn (d : List D) : roN (.rn d) = .ok d := nr rfl
@[simp] theorem roN_ex (c : String) : roN (.ex c) = .ex c := nr rfl
@[simp] theorem eCall_s (F : List D → Ro) (a : En) (r : Env) : eCall F a r = (a r).bind fun ds => roE (F ds) := nr rfl
@[simp] theorem nCall_s (F : List D → Ro) (a : En) (r : Env) : nCall F a r = (a r).bind fun ds => roN (F ds) := nr rfl
@[simp] theorem iS_s (a : Ee) (r : Env) : iS a r = (a r).bind itemsOf := nr rfl
@[simp] theorem itemsOf_l (ds : List D) : itemsOf (.lst ds) = .ok ds := nr rfl
@[simp] theorem itemsOf_t (ds : List D) : itemsOf (.tup ds) = .ok ds := nr rfl
@[simp] theorem itemsOf_s (ns : List Int) : itemsOf (.scr ns) = .ok (dInts ns) := nr rfl
@[simp] theorem gNm_s (i : Nat) (d : D) (r : Env) : gNm i d r = .ok (r.set i (.imm d)) := nr rfl
@[simp] theorem wipe_s (r : Env) (i : Nat) : wipeE r [i] = r.set i .no := nr rfl
@[simp] theorem wipe_2 (r : Env) (i j : Nat) : wipeE r [i, j] = (r.set j .no).set i .no := nr rfl
@[simp] theorem nComp_s (src : En) (g : Tg) (ws : List Nat) (t : Et) (e : Ee) (r : Env) : nComp src g ws t e r = (src r).bind fun items => capC items.length (lcGo g t e (wipeE r ws) items) := nr rfl
@[simp] theorem sNx_s (r : Env) : sNx r = .nx r := nr rfl
@[simp] theorem sSeq_s (a b : Es) (r : Env) : sSeq a b r = (match a r with | .nx q => b q | o => o) := nr rfl
@[simp] theorem sSet_s (i : Nat) (e : Ee) (r : Env) : sSet i e r = liftS r (e r) fun d => .nx (r.set i (.imm d)) := nr rfl
@[simp] theorem sSetN_s (i : Nat) (e : En) (r : Env) : sSetN i e r = liftS r (e r) fun d => .nx (r.set i (.own d)) := nr rfl
@[simp] theorem sAsg_s (e : Ee) (g : Tg) (r : Env) : sAsg e g r = liftS r (e r) fun d => liftS r (g d r).calm fun q => .nx q := nr rfl
@[simp] theorem sDrop_s (e : Ee) (r : Env) : sDrop e r = liftS r (e r) fun _ => .nx r := nr rfl
@[simp] theorem sIf_s (t : Et) (a b : Es) (r : Env) : sIf t a b r = liftS r (t r) fun c => if c then a r else b r := nr rfl
@[simp] theorem sRet_s (e : Ee) (r : Env) : sRet e r = liftS r (e r) fun d => .rt d := nr rfl
@[simp] theorem sRetN_s (e : En) (r : Env) : sRetN e r = liftS r (e r) fun d => .rn d := nr rfl
@[simp] theorem sRetO_s (i : Nat) (r : Env) : sRetO i r = (match r[i]? with | some (.own ds) => .rn ds | _ => .bad) := nr rfl
@[simp] theorem sBrk_s (r : Env) : sBrk r = .bk r := nr rfl
@[simp] theorem sRaise_s (c : String) (r : Env) : sRaise c r = .ex c r := nr rfl
@[simp] theorem sFor_s (src : En) (g : Tg) (b : Es) (r : Env) : sFor src g b r = liftS r (src r) fun items => forGo g b items r := nr rfl
@[simp] theorem sWh_s (n : Nat) (t : Et) (b : Es) (r : Env) : sWh n t b r = whGo t b n r := nr rfl
@[simp] theorem sApp_s (i : Nat) (e : Ee) (r : Env) : sApp i e r = (match r[i]? with | some (.own ds) => liftS r (e r) fun d => capS ds.length (.nx (r.set i (.own (ds ++ [d])))) | _ => .bad) := nr rfl
@[simp] theorem sPar_s (i j : Nat) (a b : Ee) (r : Env) : sPar i j a b r = liftS r (a r) fun x => liftS r (b r) fun y => .nx ((r.set i (.imm x)).set j (.imm y)) := nr rfl
@[simp] theorem gI_s (f : Int → Int → D) (i j : Int) : gI f (.int i) (.int j) = .ok (f i j) := nr rfl
@[simp] theorem gAdd_s (i j : Int) : gAdd (.int i) (.int j) = .ok (.int (i + j)) := nr rfl
@[simp] theorem gSub_s (i j : Int) : gSub (.int i) (.int j) = .ok (.int (i - j)) := nr rfl
@[simp] theorem gLt_s (i j : Int) : gLt (.int i) (.int j) = .ok (.bl (decide (i < j))) := nr rfl
@[simp] theorem gLe_s (i j : Int) : gLe (.int i) (.int j) = .ok (.bl (decide (i ≤ j))) := nr rfl
@[simp] theorem gGt_s (i j : Int) : gGt (.int i) (.int j) = .ok (.bl (decide (j < i))) := nr rfl
@[simp] theorem gGe_s (i j : Int) : gGe (.int i) (.int j) = .ok (.bl (decide (j ≤ i))) := nr rfl
@[simp] theorem gNeg_s (i : Int) : gNeg (.int i) = .ok (.int (-i)) := nr rfl
theorem gMod_s {i j : Int} (h : 0 < j) : gMod (.int i) (.int j) = .ok (.int (i % j)) := if_pos h
theorem gDiv_s {i j : Int} (h : 0 < j) (h2 : j < 1073741824) : gDiv (.int i) (.int j) = .ok (.int (i / j)) := if_pos ⟨h, h2⟩
theorem gMul_s {i j : Int} (h : (-big64 < i ∧ i < big64) ∨ (-big64 < j ∧ j < big64)) : gMul (.int i) (.int j) = .ok (.int (i * j)) := if_pos h
@[simp] theorem gLen_l (ds : List D) : gLen (.lst ds) = .ok (.int ds.length) := nr rfl
@[simp] theorem gLen_t (ds : List D) : gLen (.tup ds) = .ok (.int ds.length) := nr rfl
@[simp] theorem gLen_s (ns : List Int) : gLen (.scr ns) = .ok (.int ns.length) := nr rfl
@[simp] theorem truth_b (b : Bool) : truth (.bl b) = .ok b := nr rfl
@[simp] theorem truth_i (i : Int) : truth (.int i) = .ok (i != 0) := nr rfl
@[simp] theorem truth_n : truth .non = .ok false := nr rfl
@[simp] theorem truth_l (ds : List D) : truth (.lst ds) = .ok (!ds.isEmpty) := nr rfl
@[simp] theorem truth_t (ds : List D) : truth (.tup ds) = .ok (!ds.isEmpty) := nr rfl
theorem gIsT_s {t : String} {x : D} (h : isFn x = false) : gIsT t x = .ok (.bl (isT t x)) := by unfold gIsT; rw [h]; rfl
@[simp] theorem gIsT_non (t : String) : gIsT t .non = .ok (.bl (isT t .non)) := nr rfl
@[simp] theorem gIsT_bl (t : String) (b : Bool) : gIsT t (.bl b) = .ok (.bl (isT t (.bl b))) := nr rfl
@[simp] theorem gIsT_int (t : String) (i : Int) : gIsT t (.int i) = .ok (.bl (isT t (.int i))) := nr rfl
@[simp] theorem gIsT_str (t : String) (x : PySem.Str) : gIsT t (.str x) = .ok (.bl (isT t (.str x))) := nr rfl
@[simp] theorem gIsT_tup (t : String) (ds : List D) : gIsT t (.tup ds) = .ok (.bl (isT t (.tup ds))) := nr rfl
@[simp] theorem gIsT_lst (t : String) (ds : List D) : gIsT t (.lst ds) = .ok (.bl (isT t (.lst ds))) := nr rfl
@[simp] theorem gIsT_scr (t : String) (ns : List Int) : gIsT t (.scr ns) = .ok (.bl (isT t (.scr ns))) := nr rfl
@[simp] theorem gIsN_s (x : D) : gIsN x = .ok (.bl (isNon x)) := nr rfl
@[simp] theorem gNotN_s (x : D) : gNotN x = .ok (.bl (!isNon x)) := nr rfl
@[simp] theorem endF_nx (m : Bool) (r : Env) : endF m (.nx r) = .rt .non := nr rfl
@[simp] theorem endF_ex (m : Bool) (c : String) (r : Env) : endF m (.ex c r) = .ex c := nr rfl
theorem endF_rt {d : D} (h : noL d = true) : endF true (.rt d) = .rt d := by show (if (true && !noL d) = true then Ro.bad else .rt d) = _; rw [h]; rfl
theorem endF_rn {d : List D} (h : noLs d = true) : endF true (.rn d) = .rn d := by show (if (true && !noLs d) = true then Ro.bad else .rn d) = _; rw [h]; rfl
theorem run_s {n np : Nat} {b : Es} {ds : List D} (h : ds.length = np) : runF true n np b ds = endF true (b (startE n ds)) := by unfold runF; rw [if_pos h]; rfl
/-! ### data of ints -/
theorem noL_int (i : Int) : noL (.int i) = true := rfl
theorem noL_bl (i : Bool) : noL (.bl i) = true := rfl
theorem noLs_ints : ∀ (ns : List Int), noLs (dInts ns) = true
  | [] => rfl
  | n :: r => by show (true && noLs (dInts r)) = true; rw [noLs_ints r]; rfl
theorem noL_tints (ns : List Int) : noL (.tup (dInts ns)) = true := by show noLs _ = true; exact noLs_ints ns
theorem noLs_map {α : Type} {F : α → D} (h : ∀ x, noL (F x) = true) : ∀ xs : List α, noLs (xs.map F) = true
  | [] => rfl
  | x :: r => by show (noL (F x) && noLs (r.map F)) = true; rw [h x, noLs_map h r]; rfl
theorem asInts_ints : ∀ ns : List Int, asInts (dInts ns) = some ns
  | [] => rfl
  | n :: r => by show (asInts (dInts r)).map (fun is => n :: is) = _; rw [asInts_ints r]; rfl
theorem dInts_len (ns : List Int) : (dInts ns).length = ns.length := List.length_map _
theorem deqs_ints : ∀ (xs ys : List Int), deqs (dInts xs) (dInts ys) = decide (xs = ys)
  | [], [] => by simp [dInts, deqs]
  | [], _ :: _ => by simp [dInts, deqs]
  | _ :: _, [] => by simp [dInts, deqs]
  | x :: xs, y :: ys => by
    show (deq (.int x) (.int y) && deqs (dInts xs) (dInts ys)) = _
    rw [deqs_ints xs ys]
    by_cases h : x = y <;> simp [deq, h]
theorem dshs_ints (k : Nat) : ∀ (xs : List Int), dshs k (dInts xs) = true
  | [] => by cases k <;> rfl
  | x :: xs => by
    show (dsh k (.int x) && dshs k (dInts xs)) = true
    rw [dshs_ints k xs]
    cases k <;> rfl
theorem dsh_int (i : Int) : dsh 8 (.int i) = true := rfl
theorem dsh_bl (i : Bool) : dsh 8 (.bl i) = true := rfl
theorem dsh_lints (xs : List Int) : dsh 8 (.lst (dInts xs)) = true := dshs_ints 7 xs
theorem dsh_tints (xs : List Int) : dsh 8 (.tup (dInts xs)) = true := dshs_ints 7 xs
theorem gEq_s {x y : D} (h : dsh 8 x = true) (h2 : dsh 8 y = true) : gEq x y = .ok (.bl (deq x y)) := by unfold gEq; rw [h, h2]; rfl
theorem gNe_s {x y : D} (h : dsh 8 x = true) (h2 : dsh 8 y = true) : gNe x y = .ok (.bl (!deq x y)) := by unfold gNe; rw [h, h2]; rfl
@[simp] theorem gEq_ii (i j : Int) : gEq (.int i) (.int j) = .ok (.bl (i == j)) := rfl
@[simp] theorem gNe_ii (i j : Int) : gNe (.int i) (.int j) = .ok (.bl (!(i == j))) := rfl
theorem gEq_ll (xs ys : List Int) : gEq (.lst (dInts xs)) (.lst (dInts ys)) = .ok (.bl (decide (xs = ys))) := by rw [gEq_s (dsh_lints xs) (dsh_lints ys)]; show Rs.ok (D.bl (deqs _ _)) = _; rw [deqs_ints]
theorem gNe_ll (xs ys : List Int) : gNe (.lst (dInts xs)) (.lst (dInts ys)) = .ok (.bl (!decide (xs = ys))) := by rw [gNe_s (dsh_lints xs) (dsh_lints ys)]; show Rs.ok (D.bl (!deqs _ _)) = _; rw [deqs_ints]
theorem gEq_tt (xs ys : List Int) : gEq (.tup (dInts xs)) (.tup (dInts ys)) = .ok (.bl (decide (xs = ys))) := by rw [gEq_s (dsh_tints xs) (dsh_tints ys)]; show Rs.ok (D.bl (deqs _ _)) = _; rw [deqs_ints]
/-- items -/
theorem atI_nat {α : Type} {xs : List α} {j : Nat} {v : α} (h : xs[j]? = some v) : atI xs (j : Int) = some v := by
  have hj : j < xs.length := (List.getElem?_eq_some_iff.mp h).1
  unfold atI ixN
  rw [if_pos (by omega), if_pos (by omega)]
  exact h
theorem atI_neg1 {α : Type} {xs : List α} (h : xs ≠ []) : atI xs (-1) = xs.getLast? := by
  have hl : 0 < xs.length := List.length_pos_iff.mpr h
  unfold atI ixN
  rw [if_neg (by omega), if_pos (by omega)]
  show xs[(-1 + (xs.length : Int)).toNat]? = _
  rw [List.getLast?_eq_getElem?]
  congr 1
  omega
theorem iR2_i {a b : Ee} {r : Env} {i j : Int} (h1 : a r = .ok (.int i)) (h2 : b r = .ok (.int j)) (hb : -big62 ≤ i ∧ i < big62 ∧ -big62 ≤ j ∧ j < big62) : iR2 a b r = .ok (rng i (j - i).toNat) := by unfold iR2; rw [h1, Rs.bind_ok, h2, Rs.bind_ok]; exact if_pos hb
theorem iR1_i {a : Ee} {r : Env} {j : Int} (h1 : a r = .ok (.int j)) (hb : -big62 ≤ j ∧ j < big62) : iR1 a r = .ok (rng 0 j.toNat) := by unfold iR1; rw [h1, Rs.bind_ok]; exact if_pos hb
theorem in62 {i : Int} (h : -1000000000 ≤ i) (h2 : i ≤ 1000000000) : -big62 ≤ i ∧ i < big62 := by unfold big62; omega
theorem lt_lim {n : Nat} (h : n ≤ 100000) : n < lim := by unfold lim; omega
theorem le_lim {n : Nat} (h : n ≤ 100000) : n ≤ lim := by unfold lim; omega
end GP

namespace GP
open GM
def b_is_within : Es := (sRet (eAnd (op1 (gIsT "int") (vI 0)) (eAnd (eNot (op1 (gIsT "bool") (vI 0))) (eChain gLe gLe (vI 1) (vI 0) (vI 2)))))
def f_is_within : List D → Ro := runF true 3 3 b_is_within
def o_checked0 : Es := (sSeq (sIf (tNot (tOf (eCall f_is_within (aCons (vI 2) (aCons (op2 gAdd (vI 1) (cst (.int 1))) (aCons (cst (.int 400)) aNil)))))) (sRaise "BadPurse") sNx)
  (sSet 1 (vI 2)))
theorem o_checked0_s (r : Env) : o_checked0 r = ((sSeq (sIf (tNot (tOf (eCall f_is_within (aCons (vI 2) (aCons (op2 gAdd (vI 1) (cst (.int 1))) (aCons (cst (.int 400)) aNil)))))) (sRaise "BadPurse") sNx)
  (sSet 1 (vI 2)))) r := Eq.trans rfl rfl
def b_checked : Es := (sSeq (sIf (tOr (tNot (tOf (op1 (gIsT "tuple") (vI 0)))) (tNot (tBl (eChain gLe gLe (cst (.int 1)) (op1 gLen (vI 0)) (cst (.int 40)))))) (sRaise "BadPurse") sNx)
  (sSeq (sSet 1 (cst (.int 0)))
  (sSeq (sFor (iS (vI 0)) (gNm 2)
  o_checked0)
  (sRet (vI 0)))))
def f_checked : List D → Ro := runF true 3 1 b_checked
def o_common0 : Es := (sPar 0 1 (vI 1) (op2 gMod (vI 0) (vI 1)))
theorem o_common0_s (r : Env) : o_common0 r = ((sPar 0 1 (vI 1) (op2 gMod (vI 0) (vI 1)))) r := Eq.trans rfl rfl
def b_common : Es := (sSeq (sWh fuel (tOf (vI 1))
  o_common0)
  (sRet (vI 0)))
def f_common : List D → Ro := runF true 2 2 b_common
def o_divisor_of0 : Es := (sSet 1 (eCall f_common (aCons (vI 1) (aCons (vI 2) aNil))))
theorem o_divisor_of0_s (r : Env) : o_divisor_of0 r = ((sSet 1 (eCall f_common (aCons (vI 1) (aCons (vI 2) aNil))))) r := Eq.trans rfl rfl
def b_divisor_of : Es := (sSeq (sSet 1 (cst (.int 0)))
  (sSeq (sFor (iS (eCall f_checked (aCons (vI 0) aNil))) (gNm 2)
  o_divisor_of0)
  (sRet (vI 1))))
def f_divisor_of : List D → Ro := runF true 3 1 b_divisor_of
def o_table_of0 : Es := (sApp 2 (op2 gNe (toE (nComp (iS (vI 0)) (gNm 4) [4] (tAnd (tBl (op2 gLe (vI 4) (vI 3))) (tOf (op2 gIx (vO 2) (op2 gSub (vI 3) (vI 4))))) (cst (.int 1)))) (toE (nLst aNil))))
theorem o_table_of0_s (r : Env) : o_table_of0 r = ((sApp 2 (op2 gNe (toE (nComp (iS (vI 0)) (gNm 4) [4] (tAnd (tBl (op2 gLe (vI 4) (vI 3))) (tOf (op2 gIx (vO 2) (op2 gSub (vI 3) (vI 4))))) (cst (.int 1)))) (toE (nLst aNil))))) r := Eq.trans rfl rfl
def b_table_of : Es := (sSeq (sSetN 2 (nLst (aCons (cst (.bl true)) aNil)))
  (sSeq (sFor (iR2 (cst (.int 1)) (op2 gAdd (vI 1) (cst (.int 1)))) (gNm 3)
  o_table_of0)
  (sRetO 2)))
def f_table_of : List D → Ro := runF true 5 2 b_table_of
def o_needed0 : Es := (sIf (tNot (tOf (op2 gIx (toE (nCall f_table_of (aCons (vO 1) (aCons (vI 2) aNil)))) (vI 2)))) (sApp 1 (vI 2)) sNx)
theorem o_needed0_s (r : Env) : o_needed0 r = ((sIf (tNot (tOf (op2 gIx (toE (nCall f_table_of (aCons (vO 1) (aCons (vI 2) aNil)))) (vI 2)))) (sApp 1 (vI 2)) sNx)) r := Eq.trans rfl rfl
def b_needed : Es := (sSeq (sSetN 1 (nLst aNil))
  (sSeq (sFor (iS (vI 0)) (gNm 2)
  o_needed0)
  (sRetO 1)))
def f_needed : List D → Ro := runF true 3 1 b_needed
def b_needless : Es := (sSeq (sSet 1 (toE (nCall f_needed (aCons (eCall f_checked (aCons (vI 0) aNil)) aNil))))
  (sRetN (nComp (iS (vI 0)) (gNm 2) [2] (tBl (op2 gNotIn (vI 2) (vI 1))) (vI 2))))
def f_needless : List D → Ro := runF true 3 1 b_needless
def b_least_purse : Es := (sRet (op1 bTuple (toE (nCall f_needed (aCons (eCall f_checked (aCons (vI 0) aNil)) aNil)))))
def f_least_purse : List D → Ro := runF true 1 1 b_least_purse
def o_least_sums0 : Es := (sSeq (sSet 3 (op2 gMod (op2 gAdd (vI 5) (vI 6)) (vI 1)))
  (sIf (tOr (tBl (op1 gIsN (op2 gIx (vO 2) (vI 3)))) (tBl (op2 gLt (op2 gAdd (vI 5) (vI 6)) (op2 gIx (vO 2) (vI 3))))) (sSeq (sPut 2 (vI 3) (op2 gAdd (vI 5) (vI 6)))
  (sApp 4 (vI 3))) sNx))
theorem o_least_sums0_s (r : Env) : o_least_sums0 r = ((sSeq (sSet 3 (op2 gMod (op2 gAdd (vI 5) (vI 6)) (vI 1)))
  (sIf (tOr (tBl (op1 gIsN (op2 gIx (vO 2) (vI 3)))) (tBl (op2 gLt (op2 gAdd (vI 5) (vI 6)) (op2 gIx (vO 2) (vI 3))))) (sSeq (sPut 2 (vI 3) (op2 gAdd (vI 5) (vI 6)))
  (sApp 4 (vI 3))) sNx))) r := Eq.trans rfl rfl
def o_least_sums1 : Es := (sSeq (sPopIx 5 2 4)
  (sFor (iS (eSlT (vI 0) (oAt (cst (.int 1))) oNo)) (gNm 6)
  o_least_sums0))
theorem o_least_sums1_s (r : Env) : o_least_sums1 r = ((sSeq (sPopIx 5 2 4)
  (sFor (iS (eSlT (vI 0) (oAt (cst (.int 1))) oNo)) (gNm 6)
  o_least_sums0))) r := Eq.trans rfl rfl
def b_least_sums : Es := (sSeq (sSet 1 (op2 gIx (eCall f_checked (aCons (vI 0) aNil)) (cst (.int 0))))
  (sSeq (sSetN 2 (nComp (iR1 (vI 1)) (gNm 3) [3] tYes (cst .non)))
  (sSeq (sPut 2 (cst (.int 0)) (cst (.int 0)))
  (sSeq (sSetN 4 (nLst (aCons (cst (.int 0)) aNil)))
  (sSeq (sWh fuel (tOf (vO 4))
  o_least_sums1)
  (sRetO 2))))))
def f_least_sums : List D → Ro := runF true 7 1 b_least_sums
def b_is_made : Es := (sSeq (sSet 2 (op2 gIx (vI 0) (op2 gMod (vI 1) (op1 gLen (vI 0)))))
  (sRet (eAnd (op1 gNotN (vI 2)) (op2 gLe (vI 2) (vI 1)))))
def f_is_made : List D → Ro := runF true 3 2 b_is_made
def b_look_ends : Es := (sIf (tBl (op2 gGt (eCall f_divisor_of (aCons (vI 0) aNil)) (cst (.int 1)))) (sRaise "Endless") sNx)
def f_look_ends : List D → Ro := runF true 1 1 b_look_ends
def o_gaps_of0 : Es := (sExt 1 (nRng (iR3 (vI 2) (vI 3) (op2 gIx (vI 0) (cst (.int 0))))))
theorem o_gaps_of0_s (r : Env) : o_gaps_of0 r = ((sExt 1 (nRng (iR3 (vI 2) (vI 3) (op2 gIx (vI 0) (cst (.int 0))))))) r := Eq.trans rfl rfl
def b_gaps_of : Es := (sSeq (sDrop (eCall f_look_ends (aCons (vI 0) aNil)))
  (sSeq (sSetN 1 (nLst aNil))
  (sSeq (sFor (iEnumA (toE (nCall f_least_sums (aCons (vI 0) aNil)))) (gTp [2, 3])
  o_gaps_of0)
  (sRetN (nOp1 (lstOnly bSort) (vO 1))))))
def f_gaps_of : List D → Ro := runF true 4 1 b_gaps_of
def b_greatest_gap : Es := (sSeq (sDrop (eCall f_look_ends (aCons (vI 0) aNil)))
  (sSeq (sSet 1 (op2 gSub (op1 (lstO bMax) (toE (nCall f_least_sums (aCons (vI 0) aNil)))) (op2 gIx (vI 0) (cst (.int 0)))))
  (sSeq (sIf (tBl (op2 gLt (vI 1) (cst (.int 0)))) (sRet (cst .non)) sNx)
  (sRet (vI 1)))))
def f_greatest_gap : List D → Ro := runF true 2 1 b_greatest_gap
def o_ends_of0 : Es := (sIf (tNot (tOf (toE (nComp (iS (vI 0)) (gNm 5) [5] (tNot (tOf (eCall f_is_made (aCons (vI 2) (aCons (op2 gAdd (vI 4) (vI 5)) aNil))))) (vI 5))))) (sApp 3 (vI 4)) sNx)
theorem o_ends_of0_s (r : Env) : o_ends_of0 r = ((sIf (tNot (tOf (toE (nComp (iS (vI 0)) (gNm 5) [5] (tNot (tOf (eCall f_is_made (aCons (vI 2) (aCons (op2 gAdd (vI 4) (vI 5)) aNil))))) (vI 5))))) (sApp 3 (vI 4)) sNx)) r := Eq.trans rfl rfl
def b_ends_of : Es := (sSeq (sSet 1 (toE (nCall f_gaps_of (aCons (vI 0) aNil))))
  (sSeq (sSet 2 (toE (nCall f_least_sums (aCons (vI 0) aNil))))
  (sSeq (sSetN 3 (nLst aNil))
  (sSeq (sFor (iS (vI 1)) (gNm 4)
  o_ends_of0)
  (sRetO 3)))))
def f_ends_of : List D → Ro := runF true 6 1 b_ends_of
def b_as_purse : Es := (sSeq (sIf (tOr (tBl (op2 gGt (op1 gLen (vI 0)) (cst (.int 40)))) (tBl (op2 gGt (op2 gIx (vI 0) (op1 gNeg (cst (.int 1)))) (cst (.int 400))))) (sRaise "TooBig") sNx)
  (sRet (op1 bTuple (vI 0))))
def f_as_purse : List D → Ro := runF true 1 1 b_as_purse
def e_lam0 : Ee := (eAnd (op2 gNe (vI 0) (vI 1)) (eCall f_is_made (aCons (vI 2) (aCons (vI 0) aNil))))
def lamT : Nat → List D → Ro
  | 0 => lamF 3 e_lam0
  | _ => fun _ => .bad
def o_purse_of0 : Es := (sAug 2 (op2 gIx (vI 1) (cst (.int 0))))
theorem o_purse_of0_s (r : Env) : o_purse_of0 r = ((sAug 2 (op2 gIx (vI 1) (cst (.int 0))))) r := Eq.trans rfl rfl
def o_purse_of1 : Es := (sSeq (sSet 2 (vI 4))
  (sSeq (sWh fuel (tNot (tOf (eHas lamT 0 (aCons (vI 2) aNil))))
  o_purse_of0)
  (sApp 3 (vI 2))))
theorem o_purse_of1_s (r : Env) : o_purse_of1 r = ((sSeq (sSet 2 (vI 4))
  (sSeq (sWh fuel (tNot (tOf (eHas lamT 0 (aCons (vI 2) aNil))))
  o_purse_of0)
  (sApp 3 (vI 2))))) r := Eq.trans rfl rfl
def o_purse_of2 : Es := (sIf (tNot (tOf (toE (nComp (iS (vO 5)) (gNm 6) [6] (tOf (eHas lamT 0 (aCons (op2 gSub (vI 2) (vI 6)) aNil))) (vI 6))))) (sApp 5 (vI 2)) sNx)
theorem o_purse_of2_s (r : Env) : o_purse_of2 r = ((sIf (tNot (tOf (toE (nComp (iS (vO 5)) (gNm 6) [6] (tOf (eHas lamT 0 (aCons (op2 gSub (vI 2) (vI 6)) aNil))) (vI 6))))) (sApp 5 (vI 2)) sNx)) r := Eq.trans rfl rfl
def b_purse_of : Es := (sSeq (sSet 1 (toE (nComp (iR2 (cst (.int 1)) (op2 gAdd (cst (.int 400)) (cst (.int 1)))) (gNm 2) [2] (tOf (eHas lamT 0 (aCons (vI 2) aNil))) (vI 2))))
  (sSeq (sIf (tNot (tOf (vI 1))) (sRaise "TooBig") sNx)
  (sSeq (sSetN 3 (nLst (aCons (op2 gIx (vI 1) (cst (.int 0))) aNil)))
  (sSeq (sFor (iR2 (cst (.int 1)) (op2 gIx (vI 1) (cst (.int 0)))) (gNm 4)
  o_purse_of1)
  (sSeq (sSetN 5 (nLst aNil))
  (sSeq (sFor (nOp1 (lstOnly bSort) (vO 3)) (gNm 2)
  o_purse_of2)
  (sRet (eCall f_as_purse (aCons (vO 5) aNil)))))))))
def f_purse_of : List D → Ro := runF true 7 1 b_purse_of
def b_without : Es := (sSeq (sSet 2 (toE (nCall f_least_sums (aCons (vI 0) aNil))))
  (sRet (eLamC f_purse_of 0 [1, 2])))
def f_without : List D → Ro := runF true 3 2 b_without
def b_children_of : Es := (sSeq (sSet 1 (eCall f_greatest_gap (aCons (vI 0) aNil)))
  (sSeq (sSet 2 (toE (nComp (iS (eCall f_least_purse (aCons (vI 0) aNil))) (gNm 3) [3] (tOr (tBl (op1 gIsN (vI 1))) (tBl (op2 gGt (vI 3) (vI 1)))) (vI 3))))
  (sRetN (nOp1 bSortT (toE (nComp (iS (vI 2)) (gNm 3) [3] tYes (eCall f_without (aCons (vI 0) (aCons (vI 3) aNil)))))))))
def f_children_of : List D → Ro := runF true 4 1 b_children_of
def o_all_with0 : Es := (sExt 3 (nCall f_children_of (aCons (vI 4) aNil)))
theorem o_all_with0_s (r : Env) : o_all_with0 r = ((sExt 3 (nCall f_children_of (aCons (vI 4) aNil)))) r := Eq.trans rfl rfl
def o_all_with1 : Es := (sSeq (sSetN 3 (nLst aNil))
  (sSeq (sFor (iS (vI 1)) (gNm 4)
  o_all_with0)
  (sSet 1 (toE (nOp1 bSortT (vO 3))))))
theorem o_all_with1_s (r : Env) : o_all_with1 r = ((sSeq (sSetN 3 (nLst aNil))
  (sSeq (sFor (iS (vI 1)) (gNm 4)
  o_all_with0)
  (sSet 1 (toE (nOp1 bSortT (vO 3))))))) r := Eq.trans rfl rfl
def b_all_with : Es := (sSeq (sIf (tNot (tOf (eCall f_is_within (aCons (vI 0) (aCons (cst (.int 0)) (aCons (cst (.int 7)) aNil)))))) (sRaise "BadSum") sNx)
  (sSeq (sSet 1 (toE (nLst (aCons (eTup (aCons (cst (.int 1)) aNil)) aNil))))
  (sSeq (sFor (iR1 (vI 0)) (gNm 2)
  o_all_with1)
  (sRet (vI 1)))))
def f_all_with : List D → Ro := runB 5 1 b_all_with
def b_look_paid : Es := (sSeq (sDrop (eCall f_checked (aCons (vI 0) aNil)))
  (sIf (tNot (tOf (eCall f_is_within (aCons (vI 1) (aCons (cst (.int 0)) (aCons (cst (.int 400)) aNil)))))) (sRaise "BadSum") sNx))
def f_look_paid : List D → Ro := runF true 2 2 b_look_paid
def o_ways_up_to0 : Es := (sPut 2 (vI 3) (op2 gAdd (op2 gIx (vO 2) (vI 3)) (op2 gIx (vO 2) (op2 gSub (vI 3) (vI 4)))))
theorem o_ways_up_to0_s (r : Env) : o_ways_up_to0 r = ((sPut 2 (vI 3) (op2 gAdd (op2 gIx (vO 2) (vI 3)) (op2 gIx (vO 2) (op2 gSub (vI 3) (vI 4)))))) r := Eq.trans rfl rfl
def o_ways_up_to1 : Es := (sFor (iR2 (vI 4) (op2 gAdd (vI 1) (cst (.int 1)))) (gNm 3)
  o_ways_up_to0)
theorem o_ways_up_to1_s (r : Env) : o_ways_up_to1 r = ((sFor (iR2 (vI 4) (op2 gAdd (vI 1) (cst (.int 1)))) (gNm 3)
  o_ways_up_to0)) r := Eq.trans rfl rfl
def b_ways_up_to : Es := (sSeq (sSetN 2 (nCat (toE (nLst (aCons (cst (.int 1)) aNil))) (toE (nComp (iR1 (vI 1)) (gNm 3) [3] tYes (cst (.int 0))))))
  (sSeq (sFor (iS (vI 0)) (gNm 4)
  o_ways_up_to1)
  (sRetO 2)))
def f_ways_up_to : List D → Ro := runF true 5 2 b_ways_up_to
def b_count_ways : Es := (sSeq (sDrop (eCall f_look_paid (aCons (vI 0) (aCons (vI 1) aNil))))
  (sRet (op2 gIx (toE (nCall f_ways_up_to (aCons (vI 0) (aCons (vI 1) aNil)))) (vI 1))))
def f_count_ways : List D → Ro := runF true 2 2 b_count_ways
def o_listed0 (self : List D → Ro) : Es := (sSeq (sSet 5 (op2 gSub (vI 1) (op2 gMul (vI 4) (op2 gIx (vI 0) (cst (.int 0))))))
  (sIf (tBl (op2 gGt (op2 gIx (vI 3) (vI 5)) (cst (.int 0)))) (sExt 2 (nComp (nCall self (aCons (eSlT (vI 0) (oAt (cst (.int 1))) oNo) (aCons (vI 5) aNil))) (gNm 6) [6] tYes (op2 gCatT (eTup (aCons (vI 4) aNil)) (vI 6)))) sNx))
theorem o_listed0_s (self : List D → Ro) (r : Env) : o_listed0 self r = ((sSeq (sSet 5 (op2 gSub (vI 1) (op2 gMul (vI 4) (op2 gIx (vI 0) (cst (.int 0))))))
  (sIf (tBl (op2 gGt (op2 gIx (vI 3) (vI 5)) (cst (.int 0)))) (sExt 2 (nComp (nCall self (aCons (eSlT (vI 0) (oAt (cst (.int 1))) oNo) (aCons (vI 5) aNil))) (gNm 6) [6] tYes (op2 gCatT (eTup (aCons (vI 4) aNil)) (vI 6)))) sNx))) r := Eq.trans rfl rfl
def b_listed (self : List D → Ro) : Es := (sSeq (sIf (tNot (tOf (vI 0))) (sRetN (nLst (aCons (eTup aNil) aNil))) sNx)
  (sSeq (sSetN 2 (nLst aNil))
  (sSeq (sSet 3 (toE (nCall f_ways_up_to (aCons (eSlT (vI 0) (oAt (cst (.int 1))) oNo) (aCons (vI 1) aNil)))))
  (sSeq (sFor (iR1 (op2 gAdd (op2 gDiv (vI 1) (op2 gIx (vI 0) (cst (.int 0)))) (cst (.int 1)))) (gNm 4)
  (o_listed0 self))
  (sRetO 2)))))
def f_listed_n : Nat → List D → Ro
  | 0 => fun _ => .bad
  | n + 1 => runF true 7 2 (b_listed (f_listed_n n))
theorem f_listed_ns (n : Nat) (ds : List D) : f_listed_n (n + 1) ds = runF true 7 2 (b_listed (f_listed_n n)) ds := Eq.trans rfl rfl
def f_listed : List D → Ro := f_listed_n 7
def b_all_ways : Es := (sSeq (sIf (tBl (op2 gGt (eCall f_count_ways (aCons (vI 0) (aCons (vI 1) aNil))) (cst (.int 200)))) (sRaise "TooMany") sNx)
  (sSeq (sIf (tBl (op2 gEq (eCall f_count_ways (aCons (vI 0) (aCons (vI 1) aNil))) (cst (.int 0)))) (sRetN (nLst aNil)) sNx)
  (sRetN (nCall f_listed (aCons (vI 0) (aCons (vI 1) aNil))))))
def f_all_ways : List D → Ro := runF true 2 2 b_all_ways
def b_l_cell : Es := (sSeq (sIf (tBl (op2 gLt (vI 1) (op1 gLen (vI 0)))) (sRet (op2 gIx (vI 0) (vI 1))) sNx)
  (sRet (cst (.int 0))))
def f_l_cell : List D → Ro := runF true 2 2 b_l_cell
def b_l_mix : Es := (sRet (op2 gMod (op2 gMod (op2 gMul (vI 0) (cst (.int 48271))) (vI 1)) (vI 2)))
def f_l_mix : List D → Ro := runF true 3 3 b_l_mix
def b_l_twin (self : List D → Ro) : Es := (sSeq (sIf (tNot (tOf (op1 (gIsT "list") (vI 0)))) (sRet (vI 0)) sNx)
  (sRetN (nComp (iS (vI 0)) (gNm 1) [1] tYes (eCall self (aCons (vI 1) aNil)))))
def f_l_twin_n : Nat → List D → Ro
  | 0 => fun _ => .bad
  | n + 1 => runF true 2 1 (b_l_twin (f_l_twin_n n))
theorem f_l_twin_ns (n : Nat) (ds : List D) : f_l_twin_n (n + 1) ds = runF true 2 1 (b_l_twin (f_l_twin_n n)) ds := Eq.trans rfl rfl
def f_l_twin : List D → Ro := f_l_twin_n 7
def b_l_emptied0 : Es := sIf (tOf (op1 (gIsT "list") (vI 0))) (fun _ => .bad) sNx
def f_l_emptied0 : List D → Ro := runF true 2 1 b_l_emptied0
def b_l_coins : Es := (sSeq (sSet 3 (op2 gAdd (cst (.int 1)) (eCall f_l_mix (aCons (eCall f_l_cell (aCons (vI 0) (aCons (vI 1) aNil))) (aCons (cst (.int 9973)) (aCons (cst (.int 4)) aNil))))))
  (sSeq (sSet 4 (toE (nComp (iR1 (vI 3)) (gNm 5) [5] tYes (op2 gAdd (cst (.int 1)) (eCall f_l_mix (aCons (op2 gAdd (eCall f_l_cell (aCons (vI 0) (aCons (op2 gAdd (op2 gAdd (vI 1) (cst (.int 1))) (vI 5)) aNil))) (op2 gMul (op2 gMul (cst (.int 17)) (vI 5)) (vI 5))) (aCons (cst (.int 9967)) (aCons (vI 2) aNil))))))))
  (sRetN (nOp1 bSetSort (vI 4)))))
def f_l_coins : List D → Ro := runF true 6 3 b_l_coins
def b_l_divisor : Es := (sRet (op1 (lstO bMax) (toE (nComp (iR2 (cst (.int 1)) (op2 gAdd (op2 gIx (vI 0) (cst (.int 0))) (cst (.int 1)))) (gNm 1) [1] (tBl (op2 gEq (toE (nComp (iS (vI 0)) (gNm 2) [2] (tBl (op2 gGt (op2 gMod (vI 2) (vI 1)) (cst (.int 0)))) (cst (.int 1)))) (toE (nLst aNil)))) (vI 1)))))
def f_l_divisor : List D → Ro := runF true 3 1 b_l_divisor
def b_l_plain : Es := (sSeq (sSet 2 (op2 gIx (toE (nLst (aCons (cst (.int 7)) (aCons (cst (.int 10)) (aCons (cst (.int 14)) aNil))))) (eCall f_l_mix (aCons (eCall f_l_cell (aCons (vI 0) (aCons (vI 1) aNil))) (aCons (cst (.int 9949)) (aCons (cst (.int 3)) aNil))))))
  (sSeq (sIf (tBl (op2 gGt (op1 gLen (vI 0)) (cst (.int 63)))) (sSet 2 (cst (.int 22))) sNx)
  (sSeq (sSet 3 (toE (nCall f_l_coins (aCons (vI 0) (aCons (vI 1) (aCons (vI 2) aNil))))))
  (sSeq (sIf (tBl (op2 gGt (eCall f_l_divisor (aCons (vI 3) aNil)) (cst (.int 1)))) (sSet 3 (toE (nOp1 bSetSort (toE (nCat (vI 3) (toE (nLst (aCons (op2 gAdd (op2 gIx (vI 3) (cst (.int 0))) (cst (.int 1))) aNil)))))))) sNx)
  (sRet (op1 bTuple (vI 3)))))))
def f_l_plain : List D → Ro := runF true 4 2 b_l_plain
def b_l_lists : Es := (sSeq (sSetN 3 (nLst (aCons (toE (nCall f_needless (aCons (vI 0) aNil))) (aCons (toE (nCall f_least_sums (aCons (vI 0) aNil))) (aCons (toE (nCall f_gaps_of (aCons (vI 0) aNil))) (aCons (toE (nCall f_ends_of (aCons (vI 0) aNil))) (aCons (eCall f_all_with (aCons (vI 1) aNil)) aNil)))))))
  (sSeq (sIf (tBl (op2 gLe (eCall f_count_ways (aCons (vI 0) (aCons (vI 2) aNil))) (cst (.int 200)))) (sApp 3 (toE (nCall f_all_ways (aCons (vI 0) (aCons (vI 2) aNil))))) sNx)
  (sSeq (sIf (tBl (op2 gLt (op2 gIx (vI 0) (op1 gNeg (cst (.int 1)))) (cst (.int 14)))) (sApp 3 (toE (nCall f_children_of (aCons (vI 0) aNil)))) sNx)
  (sRetO 3))))
def f_l_lists : List D → Ro := runF false 4 3 b_l_lists
def b_law : Es := (sSeq (sSet 1 (eCall f_l_plain (aCons (vI 0) (aCons (cst (.int 2)) aNil))))
  (sSeq (sSet 2 (op2 gMod (eCall f_l_cell (aCons (vI 0) (aCons (cst (.int 0)) aNil))) (cst (.int 6))))
  (sSeq (sSet 3 (op2 gMod (eCall f_l_cell (aCons (vI 0) (aCons (cst (.int 1)) aNil))) (cst (.int 31))))
  (sSeq (sSet 4 (toE (nCall f_l_lists (aCons (vI 1) (aCons (vI 2) (aCons (vI 3) aNil))))))
  (sMidR 4 5 6 (sRet (eAnd (op2 gEq (toE (nCall f_l_lists (aCons (vI 1) (aCons (vI 2) (aCons (vI 3) aNil))))) (vI 5)) (eAnd (op2 gEq (op1 gLen (op2 gIx (vI 5) (cst (.int 1)))) (op2 gIx (vI 1) (cst (.int 0)))) (op2 gEq (vI 2) (op1 gLen (toE (nCall f_gaps_of (aCons (op2 gIx (op2 gIx (vI 5) (cst (.int 4))) (cst (.int 0))) aNil)))))))))))))
def f_law : List D → Ro := runF false 7 1 b_law
end GP

/-! GPb: purses: what the program's defs reckon, as plain lists. -/
namespace GP
open GM
/-! ### lists of naturals -/
def zs (cs : List Nat) : List Int := cs.map fun (c : Nat) => (c : Int)
abbrev dI (c : Nat) : D := .int (c : Int)
def dN (cs : List Nat) : List D := cs.map dI
theorem dN_ints (cs : List Nat) : dN cs = dInts (zs cs) := by unfold dN dInts zs; rw [List.map_map]; rfl
theorem dN_len (cs : List Nat) : (dN cs).length = cs.length := List.length_map _
theorem noLs_dN (cs : List Nat) : noLs (dN cs) = true := by rw [dN_ints]; exact noLs_ints _
theorem zs_inj {a b : List Nat} (h : zs a = zs b) : a = b := by
  unfold zs at h
  exact List.map_inj_right (fun x y e => Int.ofNat.inj e) |>.mp h
theorem dN_get (cs : List Nat) (i : Nat) : (dN cs)[i]? = (cs[i]?).map dI := List.getElem?_map ..
structure Pu (cs : List Nat) : Prop where
  ne : cs ≠ []
  len : cs.length ≤ 40
  asc : cs.Pairwise (· < ·)
  pos : ∀ c ∈ cs, 1 ≤ c
  top : ∀ c ∈ cs, c ≤ 400
/-! ### is_within, checked -/
theorem within_ok (c lo hi : Int) : f_is_within [.int c, .int lo, .int hi] = .rt (.bl (decide (lo ≤ c ∧ c ≤ hi))) := by
  refine (run_s (by rfl)).trans ?_
  simp [b_is_within, startE, isT]
  by_cases h : lo ≤ c <;> (simp [h]; exact endF_rt rfl)
theorem checked_loop : ∀ (cs : List Nat) (last : Nat) (t : D) (x : SV), cs.Pairwise (· < ·) → (∀ c ∈ cs, last < c) → (∀ c ∈ cs, c ≤ 400) →
    ∃ l' x', forGo (gNm 2) o_checked0 (dN cs) [.imm t, .imm (.int (last : Int)), x] = .nx [.imm t, .imm (.int l'), x']
  | [], last, t, x, _, _, _ => ⟨_, _, rfl⟩
  | c :: cs, last, t, x, h1, h2, h3 => by
    obtain ⟨l', x', ih⟩ := checked_loop cs c t (.imm (dI c)) (List.pairwise_cons.mp h1).2 (List.pairwise_cons.mp h1).1 fun y hy => h3 y (List.mem_cons_of_mem _ hy)
    refine ⟨l', x', ?_⟩
    have a1 := h2 c List.mem_cons_self
    have a2 := h3 c List.mem_cons_self
    have e : ((last : Int) + 1 ≤ (c : Int) ∧ (c : Int) ≤ 400) := ⟨by omega, by omega⟩
    show forGo (gNm 2) o_checked0 (dI c :: dN cs) _ = _
    unfold forGo
    simp [o_checked0_s, within_ok, e]
    exact ih
theorem checked_ok {cs : List Nat} (p : Pu cs) : f_checked [.tup (dN cs)] = .rt (.tup (dN cs)) := by
  obtain ⟨l', x', h⟩ := checked_loop cs 0 (.tup (dN cs)) .no p.asc (fun c hc => p.pos c hc) p.top
  have hl : 1 ≤ cs.length := List.length_pos_iff.mpr p.ne
  have hl2 := p.len
  refine (run_s (by rfl)).trans ?_
  have e1 : (1 : Int) ≤ ((dN cs).length : Int) := by rw [dN_len]; omega
  have e2 : ((dN cs).length : Int) ≤ 40 := by rw [dN_len]; omega
  have h : forGo (gNm 2) o_checked0 (dN cs) [.imm (.tup (dN cs)), .imm (.int 0), .no] = .nx [.imm (.tup (dN cs)), .imm (.int l'), x'] := h
  simp [b_checked, startE, isT, e1, e2, h]
  rw [endF_rt (by show noLs _ = true; exact noLs_dN cs)]
/-! ### common, divisor_of -/
theorem common_loop : ∀ (n b a : Nat), b < n → whGo (tOf (vI 1)) o_common0 (n + 1) [.imm (dI a), .imm (dI b)] = .nx [.imm (dI (Nat.gcd b a)), .imm (dI 0)]
  | 0, b, a, h => absurd h (Nat.not_lt_zero _)
  | n + 1, b, a, h => by
    unfold whGo
    rcases Nat.eq_zero_or_pos b with e | e
    · subst e
      simp
    · have ih := common_loop n (a % b) b (by have := Nat.mod_lt a e; omega)
      have e1 : b ≠ 0 := by omega
      have e2 : (0 : Int) < (b : Int) := by omega
      rw [Nat.gcd_rec b a]
      simp [o_common0_s, e1, gMod_s e2]
      exact ih
theorem common_ok (a b : Nat) (h : b ≤ 100000) : f_common [dI a, dI b] = .rt (dI (Nat.gcd b a)) := by
  refine (run_s (by rfl)).trans ?_
  have e := whGo_fuel (common_loop (b + 1) b a (Nat.lt_succ_self b)) (by simp) (by unfold fuel; omega)
  simp [b_common, startE, e]
  exact endF_rt rfl
/-- the divisor -/
def gcds (cs : List Nat) : Nat := cs.foldl (fun g c => Nat.gcd c g) 0
theorem div_loop : ∀ (cs : List Nat) (g : Nat) (t : D) (x : SV), (∀ c ∈ cs, c ≤ 400) → ∃ x', forGo (gNm 2) o_divisor_of0 (dN cs) [.imm t, .imm (dI g), x] = .nx [.imm t, .imm (dI (cs.foldl (fun g c => Nat.gcd c g) g)), x']
  | [], g, t, x, _ => ⟨_, rfl⟩
  | c :: cs, g, t, x, h => by
    obtain ⟨x', ih⟩ := div_loop cs (Nat.gcd c g) t (.imm (dI c)) fun y hy => h y (List.mem_cons_of_mem _ hy)
    refine ⟨x', ?_⟩
    show forGo (gNm 2) o_divisor_of0 (dI c :: dN cs) _ = _
    unfold forGo
    have e := common_ok g c (Nat.le_trans (h c List.mem_cons_self) (by decide))
    simp [o_divisor_of0_s, e]
    exact ih
theorem divisor_ok {cs : List Nat} (p : Pu cs) : f_divisor_of [.tup (dN cs)] = .rt (dI (gcds cs)) := by
  obtain ⟨x', h⟩ := div_loop cs 0 (.tup (dN cs)) .no p.top
  refine (run_s (by rfl)).trans ?_
  have h : forGo (gNm 2) o_divisor_of0 (dN cs) [.imm (.tup (dN cs)), .imm (.int 0), .no] = _ := h
  simp [b_divisor_of, startE, checked_ok p, h]
  exact endF_rt rfl
/-! ### what coins make -/
inductive Mk (cs : List Nat) : Nat → Prop
  | zero : Mk cs 0
  | add {n c : Nat} : c ∈ cs → Mk cs n → Mk cs (n + c)
theorem Mk.step {cs : List Nat} {n : Nat} (hp : 0 < n) : Mk cs n ↔ ∃ c ∈ cs, c ≤ n ∧ Mk cs (n - c) := by
  constructor
  · intro h
    cases h with
    | zero => omega
    | @add m c hc hm => exact ⟨c, hc, by omega, by rw [Nat.add_sub_cancel]; exact hm⟩
  · rintro ⟨c, hc, hl, hm⟩
    have := Mk.add hc hm
    rwa [Nat.sub_add_cancel hl] at this
theorem Mk.plus {cs : List Nat} {n m : Nat} (h : Mk cs n) (g : Mk cs m) : Mk cs (n + m) := by
  induction g with
  | zero => exact h
  | @add m c hc _ ih => rw [← Nat.add_assoc]; exact .add hc ih
theorem Mk.mono {cs ds : List Nat} {n : Nat} (h : Mk cs n) (s : ∀ c ∈ cs, Mk ds c) : Mk ds n := by
  induction h with
  | zero => exact .zero
  | add hc _ ih => exact ih.plus (s _ hc)
theorem Mk.self {cs : List Nat} {c : Nat} (h : c ∈ cs) : Mk cs c := by have := Mk.add h (Mk.zero (cs := cs)); rwa [Nat.zero_add] at this
theorem Mk.sub {cs ds : List Nat} {n : Nat} (h : Mk cs n) (s : ∀ c ∈ cs, c ∈ ds) : Mk ds n := h.mono fun c hc => .self (s c hc)
/-- only coins up to the sum count -/
theorem Mk.upto {cs : List Nat} {n : Nat} (h : Mk cs n) : Mk (cs.filter (· ≤ n)) n := by
  induction h with
  | zero => exact .zero
  | @add n c hc _ ih =>
    refine (ih.sub fun x hx => ?_).plus (.self ?_)
    · have := List.mem_filter.mp hx
      exact List.mem_filter.mpr ⟨this.1, by have := of_decide_eq_true this.2; exact decide_eq_true (by omega)⟩
    · exact List.mem_filter.mpr ⟨hc, decide_eq_true (by omega)⟩
open Classical in
noncomputable def mkB (cs : List Nat) (n : Nat) : Bool := decide (Mk cs n)
theorem mkB_iff {cs : List Nat} {n : Nat} : mkB cs n = true ↔ Mk cs n := by unfold mkB; exact @decide_eq_true_iff _ (Classical.propDecidable _)
theorem mkB_step {cs : List Nat} {n : Nat} (hp : 0 < n) : mkB cs n = !(cs.filter fun c => decide (c ≤ n) && mkB cs (n - c)).isEmpty := by
  rw [Bool.eq_iff_iff, mkB_iff, Mk.step hp]
  constructor
  · rintro ⟨c, hc, hl, hm⟩
    have : c ∈ cs.filter fun c => decide (c ≤ n) && mkB cs (n - c) := List.mem_filter.mpr ⟨hc, by rw [mkB_iff.mpr hm, decide_eq_true hl]; rfl⟩
    cases h : cs.filter fun c => decide (c ≤ n) && mkB cs (n - c) with
    | nil => rw [h] at this; cases this
    | cons _ _ => rfl
  · intro h
    cases h2 : cs.filter fun c => decide (c ≤ n) && mkB cs (n - c) with
    | nil => rw [h2] at h; cases h
    | cons c r =>
      have : c ∈ cs.filter fun c => decide (c ≤ n) && mkB cs (n - c) := by rw [h2]; exact List.mem_cons_self
      obtain ⟨hc, hb⟩ := List.mem_filter.mp this
      obtain ⟨h3, h4⟩ := Bool.and_eq_true_iff.mp hb
      exact ⟨c, hc, of_decide_eq_true h3, mkB_iff.mp h4⟩
/-- the table, up to n - 1 -/
noncomputable def tabD (cs : List Nat) (n : Nat) : List D := (List.range n).map fun k => D.bl (mkB cs k)
theorem tabD_len (cs : List Nat) (n : Nat) : (tabD cs n).length = n := by unfold tabD; rw [List.length_map, List.length_range]
theorem tabD_get {cs : List Nat} {n k : Nat} (h : k < n) : (tabD cs n)[k]? = some (.bl (mkB cs k)) := by unfold tabD; rw [List.getElem?_map, List.getElem?_range h]; rfl
theorem tabD_succ (cs : List Nat) (n : Nat) : tabD cs (n + 1) = tabD cs n ++ [.bl (mkB cs n)] := by unfold tabD; rw [List.range_succ, List.map_append]; rfl
theorem tabD_one (cs : List Nat) : tabD cs 1 = [.bl true] := by rw [tabD_succ]; show [] ++ [D.bl (mkB cs 0)] = _; rw [mkB_iff.mpr .zero]; rfl
theorem noLs_tab (cs : List Nat) (n : Nat) : noLs (tabD cs n) = true := noLs_map (fun _ => rfl) _
/-- one more turn of a table's loop -/
theorem rng_nat (lo k : Nat) : rng (lo : Int) k = (List.range k).map fun j => dI (lo + j) := by
  unfold rng
  refine List.map_congr_left fun j _ => ?_
  show D.int _ = D.int _
  rw [Int.natCast_add]
end GP

/-! GPc: tables, what is needed. -/
namespace GP
open GM
theorem rng_r' (lo k : Nat) : rng (lo : Int) k = (List.range' lo k).map dI := by
  rw [rng_nat, List.range'_eq_map_range, List.map_map]
  rfl
theorem ones_eq {α : Type} (xs : List α) : (xs.map fun _ => D.int 1) = dInts (xs.map fun _ => 1) := by unfold dInts; rw [List.map_map]; rfl
theorem ne_nil_ones {α : Type} (xs : List α) : gNe (.lst (xs.map fun _ => D.int 1)) (.lst []) = .ok (.bl (!xs.isEmpty)) := by
  rw [ones_eq]
  have := gNe_ll (xs.map fun _ => (1 : Int)) []
  rw [show dInts [] = [] from rfl] at this
  rw [this]
  cases xs <;> simp
theorem eq_nil_ones {α : Type} (xs : List α) : gEq (.lst (xs.map fun _ => D.int 1)) (.lst []) = .ok (.bl xs.isEmpty) := by
  rw [ones_eq]
  have := gEq_ll (xs.map fun _ => (1 : Int)) []
  rw [show dInts [] = [] from rfl] at this
  rw [this]
  cases xs <;> simp
/-- a table's loop, the program's and the law's -/
def oTab : Es := (sApp 2 (op2 gNe (toE (nComp (iS (vI 0)) (gNm 4) [4] (tAnd (tBl (op2 gLe (vI 4) (vI 3))) (tOf (op2 gIx (vO 2) (op2 gSub (vI 3) (vI 4))))) (cst (.int 1)))) (toE (nLst aNil))))
theorem oTab_s (r : Env) : oTab r = (sApp 2 (op2 gNe (toE (nComp (iS (vI 0)) (gNm 4) [4] (tAnd (tBl (op2 gLe (vI 4) (vI 3))) (tOf (op2 gIx (vO 2) (op2 gSub (vI 3) (vI 4))))) (cst (.int 1)))) (toE (nLst aNil)))) r := Eq.trans rfl rfl
def bTab : Es := (sSeq (sSetN 2 (nLst (aCons (cst (.bl true)) aNil)))
  (sSeq (sFor (iR2 (cst (.int 1)) (op2 gAdd (vI 1) (cst (.int 1)))) (gNm 3)
  oTab)
  (sRetO 2)))
section
variable {cs : List Nat} {t : D}
theorem made_here (ht : itemsOf t = .ok (dN cs)) (hc : ∀ c ∈ cs, 1 ≤ c) (hl : cs.length ≤ 1000) {n : Nat} (hn : 1 ≤ n) (last : D) (y : SV) :
    nComp (iS (vI 0)) (gNm 4) [4] (tAnd (tBl (op2 gLe (vI 4) (vI 3))) (tOf (op2 gIx (vO 2) (op2 gSub (vI 3) (vI 4))))) (cst (.int 1)) [.imm t, .imm last, .own (tabD cs n), .imm (dI n), y] =
      .ok ((cs.filter fun c => decide (c ≤ n) && mkB cs (n - c)).map fun _ => D.int 1) := by
  have e : (dN cs).length ≤ 100000 := by rw [dN_len]; omega
  simp [ht, e]
  refine lcGo_map dI (fun c => decide (c ≤ n) && mkB cs (n - c)) (fun _ => .int 1) cs fun c hcm => ⟨_, rfl, ?_, fun _ => rfl⟩
  have c1 := hc c hcm
  by_cases h : c ≤ n
  · have g : tabD cs n ≠ [] := fun z => by have := tabD_len cs n; rw [z] at this; simp at this; omega
    have ix : gIx (.lst (tabD cs n)) (.int ((n : Int) - (c : Int))) = .ok (.bl (mkB cs (n - c))) := by
      rw [show (n : Int) - (c : Int) = ((n - c : Nat) : Int) by omega]
      show ofO (atI (tabD cs n) ((n - c : Nat) : Int)) = _
      rw [atI_nat (tabD_get (by omega))]
      rfl
    simp [h, ix]
  · simp [h]
theorem table_loop (ht : itemsOf t = .ok (dN cs)) (hc : ∀ c ∈ cs, 1 ≤ c) (hl : cs.length ≤ 1000) (last : D) (y : SV) : ∀ (k n : Nat) (x : SV), 1 ≤ n → n + k ≤ 100000 →
    ∃ x', forGo (gNm 3) oTab ((List.range' n k).map dI) [.imm t, .imm last, .own (tabD cs n), x, y] = .nx [.imm t, .imm last, .own (tabD cs (n + k)), x', y]
  | 0, n, x, _, _ => ⟨x, rfl⟩
  | k + 1, n, x, hn, hb => by
    obtain ⟨x', ih⟩ := table_loop ht hc hl last y k (n + 1) (.imm (dI n)) (by omega) (by omega)
    refine ⟨x', ?_⟩
    rw [List.range'_succ, List.map_cons]
    unfold forGo
    have e := made_here ht hc hl hn last y
    have e2 : (tabD cs n).length ≤ 100000 := by rw [tabD_len]; omega
    have e3 : tabD cs n ++ [.bl (!(cs.filter fun c => decide (c ≤ n) && mkB cs (n - c)).isEmpty)] = tabD cs (n + 1) := by rw [tabD_succ, mkB_step hn]
    simp only [gNm_s, List.set_cons_succ, List.set_cons_zero, oTab_s, sApp_s, List.getElem?_cons_succ, List.getElem?_cons_zero, op2_s, toE_s, e, Rs.map_ok, Rs.bind_ok, nLst_s, aNil_s, List.length_nil, capC_ok (Nat.zero_le 100000), ne_nil_ones, liftS_ok, capS_ok e2, e3]
    rw [show n + 1 + k = n + (k + 1) by omega] at ih
    exact ih
theorem tab_run (ht : itemsOf t = .ok (dN cs)) (hc : ∀ c ∈ cs, 1 ≤ c) (hl : cs.length ≤ 1000) {last : Nat} (hb : last ≤ 90000) : runF true 5 2 bTab [t, dI last] = .rn (tabD cs (last + 1)) := by
  obtain ⟨x', h⟩ := table_loop ht hc hl (dI last) .no last 1 .no (Nat.le_refl _) (by omega)
  refine (run_s (by rfl)).trans ?_
  have e : iR2 (cst (.int 1)) (op2 gAdd (vI 1) (cst (.int 1))) [.imm t, .imm (dI last), .own [.bl true], .no, .no] = .ok ((List.range' 1 last).map dI) := by
    have c1 := in62 (i := 1) (by omega) (by omega)
    have c2 := in62 (i := (last : Int) + 1) (by omega) (by omega)
    rw [iR2_i (i := 1) (j := (last : Int) + 1) rfl rfl ⟨c1.1, c1.2, c2.1, c2.2⟩, show ((last : Int) + 1 - 1).toNat = last by omega]
    exact congrArg Rs.ok (rng_r' 1 last)
  rw [tabD_one] at h
  simp [bTab, startE, e, h]
  rw [Nat.add_comm 1 last]
  exact endF_rn (noLs_tab _ _)
end
theorem table_ok {cs : List Nat} {t : D} (ht : itemsOf t = .ok (dN cs)) (hc : ∀ c ∈ cs, 1 ≤ c) (hl : cs.length ≤ 1000) {last : Nat} (hb : last ≤ 90000) : f_table_of [t, dI last] = .rn (tabD cs (last + 1)) := tab_run ht hc hl hb
/-- a table's answer -/
theorem tab_at {cs : List Nat} {n k : Nat} (h : k < n) : gIx (.lst (tabD cs n)) (dI k) = .ok (.bl (mkB cs k)) := by
  show ofO (atI (tabD cs n) (k : Int)) = _
  rw [atI_nat (tabD_get h)]
  rfl
/-! ### needed -/
/-- the coins that those kept before do not make -/
noncomputable def needGo : List Nat → List Nat → List Nat
  | kept, [] => kept
  | kept, c :: cs => if mkB kept c then needGo kept cs else needGo (kept ++ [c]) cs
noncomputable def need (cs : List Nat) : List Nat := needGo [] cs
theorem needGo_cons (kept : List Nat) (c : Nat) (cs : List Nat) : needGo kept (c :: cs) = needGo (if mkB kept c then kept else kept ++ [c]) cs := by
  show (if mkB kept c then needGo kept cs else needGo (kept ++ [c]) cs) = _
  cases mkB kept c <;> rfl
theorem need_turn (t : D) (kept : List Nat) (c : Nat) (hk : (∀ c ∈ kept, 1 ≤ c)) (hc' : 1 ≤ c) (hb' : c ≤ 1000) (hl : kept.length + 1 ≤ 1000) : o_needed0 [.imm t, .own (dN kept), .imm (dI c)] = .nx [.imm t, .own (dN (if mkB kept c then kept else kept ++ [c])), .imm (dI c)] := by
  have e := table_ok (cs := kept) (t := .lst (dN kept)) rfl hk (by omega) (last := c) (by omega)
  have e1 := tab_at (cs := kept) (n := c + 1) (k := c) (Nat.lt_succ_self c)
  have e2 : (dN kept).length ≤ 100000 := by rw [dN_len]; omega
  have e3 : dN kept ++ [dI c] = dN (kept ++ [c]) := by unfold dN; rw [List.map_append]; rfl
  cases hm : mkB kept c with
  | true => simp [o_needed0_s, e, e1, hm]
  | false => simp [o_needed0_s, e, e1, hm, e2, e3]
theorem for_nx {g : Tg} {b : Es} {d : D} {ds : List D} {r r1 q : Env} (h : g d r = .ok r1) (h2 : b r1 = .nx q) : forGo g b (d :: ds) r = forGo g b ds q := by
  conv => lhs; unfold forGo
  rw [h]
  show (match b r1 with | .nx q => forGo g b ds q | .bk q => .nx q | o => o) = _
  rw [h2]
theorem need_loop (t : D) (cs : List Nat) : ∀ (kept : List Nat) (x : SV), (∀ c ∈ kept, 1 ≤ c) → (∀ c ∈ cs, 1 ≤ c) → (∀ c ∈ cs, c ≤ 1000) → kept.length + cs.length ≤ 1000 →
    ∃ x', forGo (gNm 2) o_needed0 (dN cs) [.imm t, .own (dN kept), x] = .nx [.imm t, .own (dN (needGo kept cs)), x'] := by
  induction cs with
  | nil => intro kept x _ _ _ _; exact ⟨x, rfl⟩
  | cons c cs ih =>
    intro kept x hk hc hb hl
    have hb' := hb c List.mem_cons_self
    have hc' := hc c List.mem_cons_self
    rw [List.length_cons] at hl
    obtain ⟨x', h⟩ := ih (if mkB kept c then kept else kept ++ [c]) (.imm (dI c)) (by
      cases mkB kept c with
      | true => exact hk
      | false => exact fun y hy => (List.mem_append.mp hy).elim (hk y) fun z => by rw [List.mem_singleton.mp z]; exact hc') (fun y hy => hc y (List.mem_cons_of_mem _ hy)) (fun y hy => hb y (List.mem_cons_of_mem _ hy)) (by
      cases mkB kept c with
      | true => show kept.length + _ ≤ _; omega
      | false => show (kept ++ [c]).length + _ ≤ _; rw [List.length_append]; show kept.length + 1 + _ ≤ _; omega)
    refine ⟨x', ?_⟩
    rw [needGo_cons, ← h]
    exact for_nx rfl (need_turn t kept c hk hc' hb' (by omega))
theorem needed_ok {t : D} {cs : List Nat} (ht : itemsOf t = .ok (dN cs)) (hc : ∀ c ∈ cs, 1 ≤ c) (hb : ∀ c ∈ cs, c ≤ 1000) (hl : cs.length ≤ 1000) : f_needed [t] = .rn (dN (need cs)) := by
  obtain ⟨x', h⟩ := need_loop t cs [] .no (fun _ z => by cases z) hc hb (by simpa using hl)
  refine (run_s (by rfl)).trans ?_
  have h : forGo (gNm 2) o_needed0 (dN cs) [.imm t, .own [], .no] = _ := h
  simp [b_needed, startE, ht, h]
  exact endF_rn (noLs_dN _)
/-- the coins that the lesser ones do not make -/
noncomputable def keeps (cs : List Nat) : List Nat := cs.filter fun c => !mkB (cs.filter (· < c)) c
theorem mkB_congr {a b : List Nat} (h : ∀ n, Mk a n ↔ Mk b n) (n : Nat) : mkB a n = mkB b n := by rw [Bool.eq_iff_iff, mkB_iff, mkB_iff]; exact h n
theorem lt_filter_prefix {done rest : List Nat} {c : Nat} (h : (done ++ c :: rest).Pairwise (· < ·)) : (done ++ c :: rest).filter (· < c) = done := by
  obtain ⟨_, h2, h3⟩ := List.pairwise_append.mp h
  rw [List.filter_append, List.filter_eq_self.mpr fun x hx => decide_eq_true (h3 x hx c List.mem_cons_self), List.filter_eq_nil_iff.mpr fun x hx => ?_, List.append_nil]
  rcases List.mem_cons.mp hx with rfl | hx
  · simp
  · have := (List.pairwise_cons.mp h2).1 x hx
    simp; omega
theorem needGo_is : ∀ (rest done kept : List Nat), (done ++ rest).Pairwise (· < ·) → (∀ n, Mk kept n ↔ Mk done n) → needGo kept rest = kept ++ rest.filter fun c => !mkB ((done ++ rest).filter (· < c)) c
  | [], done, kept, _, _ => by simp [needGo]
  | c :: rest, done, kept, hp, hk => by
    have hpre := lt_filter_prefix hp
    have hp2 : ((done ++ [c]) ++ rest).Pairwise (· < ·) := by rw [List.append_assoc]; exact hp
    have e1 : mkB kept c = mkB done c := mkB_congr hk c
    unfold needGo
    rw [List.filter_cons, hpre, e1]
    cases hm : mkB done c with
    | true =>
      have hk2 : ∀ n, Mk kept n ↔ Mk (done ++ [c]) n := fun n => (hk n).trans ⟨fun z => z.sub fun x hx => List.mem_append_left _ hx, fun z => z.mono fun x hx => (List.mem_append.mp hx).elim .self fun y => by rw [List.mem_singleton.mp y]; exact mkB_iff.mp hm⟩
      rw [if_pos rfl, needGo_is rest (done ++ [c]) kept hp2 hk2, List.append_assoc]
      simp
    | false =>
      have hk2 : ∀ n, Mk (kept ++ [c]) n ↔ Mk (done ++ [c]) n := fun n =>
        ⟨fun z => z.mono fun x hx => (List.mem_append.mp hx).elim (fun y => ((hk x).mp (.self y)).sub fun w hw => List.mem_append_left _ hw) fun y => .self (List.mem_append_right _ y),
         fun z => z.mono fun x hx => (List.mem_append.mp hx).elim (fun y => ((hk x).mpr (.self y)).sub fun w hw => List.mem_append_left _ hw) fun y => .self (List.mem_append_right _ y)⟩
      rw [if_neg Bool.false_ne_true, needGo_is rest (done ++ [c]) (kept ++ [c]) hp2 hk2, List.append_assoc]
      simp
theorem need_keeps {cs : List Nat} (h : cs.Pairwise (· < ·)) : need cs = keeps cs := by
  unfold need keeps
  rw [needGo_is cs [] [] h fun _ => Iff.rfl]
  rfl
end GP

/-! GPd: sorted sets, cells, drawn coins. -/
namespace GP
open GM
/-! ### sorted(set()) -/
theorem mem_insI {x a : Int} : ∀ {xs : List Int}, x ∈ insI a xs ↔ x = a ∨ x ∈ xs
  | [] => by show x ∈ [a] ↔ _; simp
  | b :: r => by
    unfold insI
    by_cases h : a ≤ b
    · rw [if_pos h]; exact List.mem_cons
    · rw [if_neg h, List.mem_cons, mem_insI, List.mem_cons]
      constructor
      · rintro (h | h | h)
        · exact .inr (.inl h)
        · exact .inl h
        · exact .inr (.inr h)
      · rintro (h | h | h)
        · exact .inr (.inl h)
        · exact .inl h
        · exact .inr (.inr h)
theorem insI_asc {a : Int} : ∀ {xs : List Int}, xs.Pairwise (· < ·) → a ∉ xs → (insI a xs).Pairwise (· < ·)
  | [], _, _ => List.pairwise_singleton _ _
  | b :: r, h, hn => by
    obtain ⟨h1, h2⟩ := List.pairwise_cons.mp h
    have ne : a ≠ b := fun e => hn (e ▸ List.mem_cons_self)
    unfold insI
    by_cases hl : a ≤ b
    · rw [if_pos hl]
      refine List.pairwise_cons.mpr ⟨fun y hy => ?_, h⟩
      rcases List.mem_cons.mp hy with e | hy
      · subst e; omega
      · have := h1 y hy; omega
    · rw [if_neg hl]
      refine List.pairwise_cons.mpr ⟨fun y hy => ?_, insI_asc h2 fun z => hn (List.mem_cons_of_mem _ z)⟩
      rcases mem_insI.mp hy with e | hy
      · subst e; omega
      · exact h1 y hy
theorem insI_len (a : Int) : ∀ xs : List Int, (insI a xs).length = xs.length + 1
  | [] => rfl
  | b :: r => by
    unfold insI
    by_cases hl : a ≤ b
    · rw [if_pos hl]; rfl
    · rw [if_neg hl, List.length_cons, insI_len a r]; rfl
theorem mem_sortI {x : Int} : ∀ {xs : List Int}, x ∈ sortI xs ↔ x ∈ xs
  | [] => Iff.rfl
  | a :: r => by show x ∈ insI a (sortI r) ↔ _; rw [mem_insI, mem_sortI, List.mem_cons]
theorem sortI_asc : ∀ {xs : List Int}, xs.Nodup → (sortI xs).Pairwise (· < ·)
  | [], _ => .nil
  | a :: r, h => insI_asc (sortI_asc (List.nodup_cons.mp h).2) fun z => (List.nodup_cons.mp h).1 (mem_sortI.mp z)
theorem sortI_len : ∀ xs : List Int, (sortI xs).length = xs.length
  | [] => rfl
  | a :: r => by show (insI a (sortI r)).length = _; rw [insI_len, sortI_len r]; rfl
theorem dedI_is : ∀ xs : List Int, (dedI xs).Nodup ∧ (∀ x, x ∈ dedI xs ↔ x ∈ xs) ∧ (dedI xs).length ≤ xs.length
  | [] => ⟨.nil, fun _ => Iff.rfl, Nat.le_refl _⟩
  | a :: r => by
    obtain ⟨h1, h2, h3⟩ := dedI_is r
    unfold dedI
    by_cases h : a ∈ r
    · rw [if_pos h]
      exact ⟨h1, fun x => (h2 x).trans ⟨List.mem_cons_of_mem _, fun z => (List.mem_cons.mp z).elim (fun e => e ▸ h) id⟩, Nat.le_succ_of_le h3⟩
    · rw [if_neg h]
      exact ⟨List.nodup_cons.mpr ⟨fun z => h ((h2 a).mp z), h1⟩, fun x => by rw [List.mem_cons, List.mem_cons, h2], Nat.succ_le_succ h3⟩
theorem setI_asc (xs : List Int) : (setI xs).Pairwise (· < ·) := sortI_asc (dedI_is xs).1
theorem mem_setI {x : Int} {xs : List Int} : x ∈ setI xs ↔ x ∈ xs := mem_sortI.trans ((dedI_is xs).2.1 x)
theorem setI_len (xs : List Int) : (setI xs).length ≤ xs.length := by unfold setI; rw [sortI_len]; exact (dedI_is xs).2.2
/-- of naturals -/
def setN (cs : List Nat) : List Nat := (setI (zs cs)).map Int.toNat
theorem zs_mem {x : Int} {cs : List Nat} : x ∈ zs cs ↔ ∃ c ∈ cs, (c : Int) = x := List.mem_map
theorem mem_setN {c : Nat} {cs : List Nat} : c ∈ setN cs ↔ c ∈ cs := by
  unfold setN
  constructor
  · intro h
    obtain ⟨x, hx, e⟩ := List.mem_map.mp h
    obtain ⟨d, hd, e2⟩ := zs_mem.mp (mem_setI.mp hx)
    have : d = c := by omega
    exact this ▸ hd
  · intro h
    exact List.mem_map.mpr ⟨(c : Int), mem_setI.mpr (zs_mem.mpr ⟨c, h, rfl⟩), by omega⟩
theorem setN_zs (cs : List Nat) : zs (setN cs) = setI (zs cs) := by
  unfold setN zs
  rw [List.map_map]
  refine (List.map_congr_left (g := id) fun x hx => ?_).trans (List.map_id _)
  obtain ⟨d, _, e⟩ := zs_mem.mp (mem_setI.mp hx)
  show ((x.toNat : Nat) : Int) = x
  omega
theorem setN_asc (cs : List Nat) : (setN cs).Pairwise (· < ·) := by
  have h := setI_asc (zs cs)
  rw [← setN_zs] at h
  unfold zs at h
  rw [List.pairwise_map] at h
  exact h.imp fun z => by omega
theorem setN_len (cs : List Nat) : (setN cs).length ≤ cs.length := by
  have := setI_len (zs cs)
  rw [← setN_zs] at this
  unfold zs at this
  rwa [List.length_map, List.length_map] at this
theorem setN_ne {cs : List Nat} (h : cs ≠ []) : setN cs ≠ [] := by
  obtain ⟨c, r, e⟩ := List.exists_cons_of_ne_nil h
  intro z
  have : c ∈ setN cs := mem_setN.mpr (e ▸ List.mem_cons_self)
  rw [z] at this
  cases this
theorem setSort_ok {cs : List Nat} (h : cs.length < 4000) : bSetSort (.lst (dN cs)) = .ok (dN (setN cs)) := by
  rw [dN_ints, dN_ints, setN_zs]
  show (match asInts (dInts (zs cs)) with
    | some ns => (if ns.length < 4000 then Rs.ok (dInts (setI ns)) else .bad)
    | none => .bad) = _
  rw [asInts_ints]
  exact if_pos (by unfold zs; rw [List.length_map]; exact h)
/-! ### cells -/
def cellI (ns : List Int) (i : Nat) : Int := (ns[i]?).getD 0
theorem ix_scr {ns : List Int} {i : Nat} (h : i < ns.length) : gIx (.scr ns) (dI i) = .ok (.int (cellI ns i)) := by
  show ofO (atI (dInts ns) (i : Int)) = _
  have e : (dInts ns)[i]? = some (.int (cellI ns i)) := by
    unfold dInts cellI
    rw [List.getElem?_map, List.getElem?_eq_getElem h]
    rfl
  rw [atI_nat e]
  rfl
theorem cell_ok (ns : List Int) (i : Nat) : f_l_cell [.scr ns, dI i] = .rt (.int (cellI ns i)) := by
  refine (run_s (by rfl)).trans ?_
  by_cases h : i < ns.length
  · have e := ix_scr h
    simp [b_l_cell, startE, h, e]
    exact endF_rt rfl
  · have e : cellI ns i = 0 := by unfold cellI; rw [List.getElem?_eq_none (by omega)]; rfl
    simp [b_l_cell, startE, h, e]
    exact endF_rt rfl
def mixN (v : Int) (p k : Nat) : Nat := (v * 48271 % (p : Int) % (k : Int)).toNat
theorem mixN_lt {v : Int} {p k : Nat} (hk : 0 < k) : mixN v p k < k := by
  unfold mixN
  have h1 := Int.emod_nonneg (v * 48271 % (p : Int)) (b := (k : Int)) (by omega)
  have h2 := Int.emod_lt_of_pos (v * 48271 % (p : Int)) (b := (k : Int)) (by omega)
  omega
theorem mul_r {v : Int} {k : Int} (h : -1000000000 ≤ k) (h2 : k ≤ 1000000000) : gMul (.int v) (.int k) = .ok (.int (v * k)) := gMul_s (.inr (by unfold big64; omega))
theorem mul_l {v : Int} {k : Int} (h : -1000000000 ≤ v) (h2 : v ≤ 1000000000) : gMul (.int v) (.int k) = .ok (.int (v * k)) := gMul_s (.inl (by unfold big64; omega))
theorem mix_ok (v : Int) {p k : Nat} (hp : 0 < p) (hk : 0 < k) : f_l_mix [.int v, dI p, dI k] = .rt (dI (mixN v p k)) := by
  refine (run_s (by rfl)).trans ?_
  have e1 : gMul (.int v) (.int 48271) = .ok (.int (v * 48271)) := mul_r (by omega) (by omega)
  have e2 : gMod (.int (v * 48271)) (dI p) = .ok (.int (v * 48271 % (p : Int))) := gMod_s (by omega)
  have e3 : gMod (.int (v * 48271 % (p : Int))) (dI k) = .ok (.int (v * 48271 % (p : Int) % (k : Int))) := gMod_s (by omega)
  have e4 : D.int (v * 48271 % (p : Int) % (k : Int)) = dI (mixN v p k) := by
    unfold mixN
    have h1 := Int.emod_nonneg (v * 48271 % (p : Int)) (b := (k : Int)) (by omega)
    rw [show dI (v * 48271 % (p : Int) % (k : Int)).toNat = D.int (((v * 48271 % (p : Int) % (k : Int)).toNat : Nat) : Int) from rfl, Int.toNat_of_nonneg h1]
  simp [b_l_mix, startE, e1, e2, e3]
  rw [e4]
  exact endF_rt rfl
/-! ### drawn coins -/
def coinN (ns : List Int) (i m k : Nat) : Nat := 1 + mixN (cellI ns (i + 1 + k) + 17 * (k : Int) * (k : Int)) 9967 m
def coinsN (ns : List Int) (i m : Nat) : List Nat := (List.range (1 + mixN (cellI ns i) 9973 4)).map (coinN ns i m)
theorem coins_ok (ns : List Int) {i m : Nat} (hm : 0 < m) : f_l_coins [.scr ns, dI i, dI m] = .rn (dN (setN (coinsN ns i m))) := by
  refine (run_s (by rfl)).trans ?_
  have hc := mixN_lt (v := cellI ns i) (p := 9973) (k := 4) (by omega)
  have e0 := cell_ok ns i
  have e1 : f_l_mix [.int (cellI ns i), .int 9973, .int 4] = .rt (dI (mixN (cellI ns i) 9973 4)) := mix_ok (p := 9973) (k := 4) _ (by omega) (by omega)
  have e2 : ∀ y, nComp (iR1 (vI 3)) (gNm 5) [5] tYes (op2 gAdd (cst (.int 1)) (eCall f_l_mix (aCons (op2 gAdd (eCall f_l_cell (aCons (vI 0) (aCons (op2 gAdd (op2 gAdd (vI 1) (cst (.int 1))) (vI 5)) aNil))) (op2 gMul (op2 gMul (cst (.int 17)) (vI 5)) (vI 5))) (aCons (cst (.int 9967)) (aCons (vI 2) aNil))))) [.imm (.scr ns), .imm (dI i), .imm (dI m), .imm (.int (1 + (mixN (cellI ns i) 9973 4 : Nat) : Int)), y, .no] = .ok (dN (coinsN ns i m)) := by
    intro y
    have b := in62 (i := (1 + (mixN (cellI ns i) 9973 4 : Nat) : Int)) (by omega) (by omega)
    have e : iR1 (vI 3) [.imm (.scr ns), .imm (dI i), .imm (dI m), .imm (.int (1 + (mixN (cellI ns i) 9973 4 : Nat) : Int)), y, .no] = .ok ((List.range (1 + mixN (cellI ns i) 9973 4)).map dI) := by
      rw [iR1_i (j := (1 + (mixN (cellI ns i) 9973 4 : Nat) : Int)) rfl b, show (1 + (mixN (cellI ns i) 9973 4 : Nat) : Int).toNat = 1 + mixN (cellI ns i) 9973 4 by omega]
      have := rng_nat 0 (1 + mixN (cellI ns i) 9973 4)
      rw [show ((0 : Nat) : Int) = 0 from rfl] at this
      rw [this]
      exact congrArg Rs.ok (List.map_congr_left fun j _ => by rw [Nat.zero_add])
    have el : ((List.range (1 + mixN (cellI ns i) 9973 4)).map dI).length ≤ 100000 := by rw [List.length_map, List.length_range]; omega
    rw [nComp_s, e, Rs.bind_ok, capC_ok el, wipe_s]
    unfold coinsN dN
    rw [List.map_map]
    refine lcGo_all dI _ _ fun k hk => ⟨_, gNm_s _ _ _, ?_⟩
    have hk4 : k < 4 := by have := List.mem_range.mp hk; omega
    have a0 : D.int ((i : Int) + 1 + (k : Int)) = dI (i + 1 + k) := by show D.int _ = D.int _; congr 1
    have a1 := cell_ok ns (i + 1 + k)
    have a2 : gMul (.int 17) (dI k) = .ok (.int (17 * (k : Int))) := mul_l (by omega) (by omega)
    have a3 : gMul (.int (17 * (k : Int))) (dI k) = .ok (.int (17 * (k : Int) * (k : Int))) := mul_r (by omega) (by omega)
    have a4 : f_l_mix [.int (cellI ns (i + 1 + k) + 17 * (k : Int) * (k : Int)), .int 9967, dI m] = .rt (dI (mixN (cellI ns (i + 1 + k) + 17 * (k : Int) * (k : Int)) 9967 m)) := mix_ok (p := 9967) (k := m) _ (by omega) hm
    simp [a0, a1, a2, a3, a4]
    unfold coinN
    omega
  have e3 : bSetSort (.lst (dN (coinsN ns i m))) = _ := setSort_ok (by unfold coinsN; rw [List.length_map, List.length_range]; omega)
  simp [-nComp_s, b_l_coins, startE, e0, e1, e2, e3, nOp1]
  exact endF_rn (noLs_dN _)
end GP

/-! GPe: what is needed and what is not. -/
namespace GP
open GM
theorem eqN (a b : List Nat) : gEq (.lst (dN a)) (.lst (dN b)) = .ok (.bl (decide (a = b))) := by
  rw [dN_ints, dN_ints, gEq_ll]
  by_cases h : a = b
  · rw [h]; simp
  · rw [decide_eq_false h, decide_eq_false fun z => h (zs_inj z)]
theorem neN (a b : List Nat) : gNe (.lst (dN a)) (.lst (dN b)) = .ok (.bl (!decide (a = b))) := by
  rw [dN_ints, dN_ints, gNe_ll]
  by_cases h : a = b
  · rw [h]; simp
  · rw [decide_eq_false h, decide_eq_false fun z => h (zs_inj z)]
theorem eqT (a b : List Nat) : gEq (.tup (dN a)) (.tup (dN b)) = .ok (.bl (decide (a = b))) := by
  rw [dN_ints, dN_ints, gEq_tt]
  by_cases h : a = b
  · rw [h]; simp
  · rw [decide_eq_false h, decide_eq_false fun z => h (zs_inj z)]
theorem flat_dN : ∀ cs : List Nat, (dN cs).all flat0 = true
  | [] => rfl
  | c :: r => by show (true && (dN r).all flat0) = true; rw [flat_dN r]; rfl
theorem inL_dN (c : Nat) : ∀ cs : List Nat, inL (dI c) (dN cs) = decide (c ∈ cs)
  | [] => by simp [inL, dN]
  | d :: r => by
    have ih := inL_dN c r
    show ((d : Int) == (c : Int) || inL (dI c) (dN r)) = _
    rw [ih]
    by_cases h : c = d
    · subst h; simp
    · have : ¬ (d : Int) = (c : Int) := by omega
      simp [h, this]
theorem notIn {y : D} {c : Nat} {cs : List Nat} (h : itemsOf y = .ok (dN cs)) : gNotIn (dI c) y = .ok (.bl (!decide (c ∈ cs))) := by
  unfold gNotIn
  rw [h]
  show (if (true && (dN cs).all flat0) = true then Rs.ok (D.bl (!inL (dI c) (dN cs))) else .bad) = _
  rw [flat_dN, inL_dN]
  rfl
/-- a comprehension over coins, that keeps coins -/
theorem comp_keep {src : En} {r : Env} {cs : List Nat} {i : Nat} {t : Et} {e : Ee} {keep : Nat → Bool} {F : Nat → D} (hs : src r = .ok (dN cs)) (hl : cs.length ≤ 100000)
    (h : ∀ c ∈ cs, t ((r.set i .no).set i (.imm (dI c))) = .ok (keep c) ∧ (keep c = true → e ((r.set i .no).set i (.imm (dI c))) = .ok (F c))) : nComp src (gNm i) [i] t e r = .ok ((cs.filter keep).map F) := by
  rw [nComp_s, hs, Rs.bind_ok, capC_ok (by rw [dN_len]; exact hl), wipe_s]
  exact lcGo_map dI keep F cs fun c hc => ⟨_, gNm_s _ _ _, (h c hc).1, (h c hc).2⟩
theorem needless_ok {cs : List Nat} (p : Pu cs) : f_needless [.tup (dN cs)] = .rn (dN (cs.filter fun c => !decide (c ∈ keeps cs))) := by
  have hl := p.len
  have e1 := needed_ok (t := .tup (dN cs)) rfl p.pos (fun c hc => Nat.le_trans (p.top c hc) (by omega)) (by omega)
  rw [need_keeps p.asc] at e1
  have e2 : nComp (iS (vI 0)) (gNm 2) [2] (tBl (op2 gNotIn (vI 2) (vI 1))) (vI 2) [.imm (.tup (dN cs)), .imm (.lst (dN (keeps cs))), .no] = .ok (dN (cs.filter fun c => !decide (c ∈ keeps cs))) := by
    refine comp_keep rfl (by omega) fun c hc => ⟨?_, fun _ => by simp⟩
    have e := notIn (y := .lst (dN (keeps cs))) (c := c) rfl
    simp [e]
  refine (run_s (by rfl)).trans ?_
  simp [-nComp_s, b_needless, startE, checked_ok p, e1, e2]
  have := endF_rn (noLs_dN (cs.filter fun c => !decide (c ∈ keeps cs)))
  simpa using this
theorem least_ok {cs : List Nat} (p : Pu cs) : f_least_purse [.tup (dN cs)] = .rt (.tup (dN (keeps cs))) := by
  have hl := p.len
  have e1 := needed_ok (t := .tup (dN cs)) rfl p.pos (fun c hc => Nat.le_trans (p.top c hc) (by omega)) (by omega)
  rw [need_keeps p.asc] at e1
  refine (run_s (by rfl)).trans ?_
  simp [b_least_purse, startE, checked_ok p, e1, bTuple]
  exact endF_rt (by show noLs _ = true; exact noLs_dN _)
/-! ### what is kept -/
theorem mem_keeps {c : Nat} {cs : List Nat} : c ∈ keeps cs ↔ c ∈ cs ∧ mkB (cs.filter (· < c)) c = false := by
  unfold keeps
  rw [List.mem_filter]
  cases mkB (cs.filter (· < c)) c <;> simp
theorem keeps_keeps (cs : List Nat) : keeps (keeps cs) = keeps cs := by
  show (keeps cs).filter (fun c => !mkB ((keeps cs).filter (· < c)) c) = keeps cs
  refine List.filter_eq_self.mpr fun c hc => ?_
  cases h : mkB ((keeps cs).filter (· < c)) c with
  | false => rfl
  | true =>
    have h1 := mkB_iff.mp h
    have h2 : Mk (cs.filter (· < c)) c := h1.sub fun x hx => by
      obtain ⟨a, b⟩ := List.mem_filter.mp hx
      exact List.mem_filter.mpr ⟨(mem_keeps.mp a).1, b⟩
    have h3 := (mem_keeps.mp hc).2
    rw [mkB_iff.mpr h2] at h3
    cases h3
theorem Mk.of_nil {n : Nat} (h : Mk [] n) : n = 0 := by
  cases h with
  | zero => rfl
  | add hc _ => cases hc
theorem asc_head_min {c : Nat} {r : List Nat} (h : (c :: r).Pairwise (· < ·)) : (c :: r).filter (· < c) = [] := by
  have := lt_filter_prefix (done := []) (rest := r) (c := c) h
  exact this
theorem Pu.keeps {cs : List Nat} (p : Pu cs) : Pu (keeps cs) where
  ne := by
    obtain ⟨c, r, e⟩ := List.exists_cons_of_ne_nil p.ne
    have : c ∈ GP.keeps cs := by
      rw [mem_keeps]
      refine ⟨e ▸ List.mem_cons_self, ?_⟩
      rw [e, asc_head_min (e ▸ p.asc)]
      cases h : mkB [] c with
      | false => rfl
      | true =>
        have h1 := (mkB_iff.mp h).of_nil
        have h2 := p.pos c (e ▸ List.mem_cons_self)
        omega
    exact List.ne_nil_of_mem this
  len := Nat.le_trans (List.length_filter_le _ _) p.len
  asc := p.asc.sublist List.filter_sublist
  pos := fun c hc => p.pos c (mem_keeps.mp hc).1
  top := fun c hc => p.top c (mem_keeps.mp hc).1
/-- the others make it just if the lesser ones do -/
theorem mk_others {cs : List Nat} {c : Nat} : mkB (cs.filter (· ≠ c)) c = mkB (cs.filter (· < c)) c := by
  rw [Bool.eq_iff_iff, mkB_iff, mkB_iff]
  constructor
  · intro h
    refine h.upto.sub fun x hx => ?_
    obtain ⟨a, b⟩ := List.mem_filter.mp hx
    obtain ⟨a1, a2⟩ := List.mem_filter.mp a
    have b := of_decide_eq_true b
    have a2 := of_decide_eq_true a2
    exact List.mem_filter.mpr ⟨a1, decide_eq_true (by omega)⟩
  · intro h
    refine h.sub fun x hx => ?_
    obtain ⟨a, b⟩ := List.mem_filter.mp hx
    have b := of_decide_eq_true b
    exact List.mem_filter.mpr ⟨a, decide_eq_true (by omega)⟩
noncomputable def spare (cs : List Nat) : List Nat := cs.filter fun c => mkB (cs.filter (· ≠ c)) c
theorem spare_is (cs : List Nat) : spare cs = cs.filter fun c => !decide (c ∈ keeps cs) := by
  unfold spare
  refine List.filter_congr fun c hc => ?_
  rw [mk_others]
  cases h : mkB (cs.filter (· < c)) c with
  | true =>
    have : ¬ c ∈ keeps cs := fun z => by rw [(mem_keeps.mp z).2] at h; cases h
    simp [this]
  | false =>
    have : c ∈ keeps cs := mem_keeps.mpr ⟨hc, h⟩
    simp [this]
theorem keeps_is (cs : List Nat) : keeps cs = cs.filter fun c => !decide (c ∈ spare cs) := by
  rw [spare_is]
  conv => lhs; unfold keeps
  refine List.filter_congr fun c hc => ?_
  cases h : mkB (cs.filter (· < c)) c with
  | true =>
    have h1 : ¬ c ∈ keeps cs := fun z => by rw [(mem_keeps.mp z).2] at h; cases h
    simp [h1, hc]
  | false =>
    have h1 : c ∈ keeps cs := mem_keeps.mpr ⟨hc, h⟩
    simp [h1]
theorem no_more (cs : List Nat) : ((keeps cs).filter fun c => !decide (c ∈ keeps (keeps cs))) = [] := by
  rw [keeps_keeps]
  exact List.filter_eq_nil_iff.mpr fun c hc => by simp [hc]
theorem asc_ext : ∀ {a b : List Nat}, a.Pairwise (· < ·) → b.Pairwise (· < ·) → (∀ x, x ∈ a ↔ x ∈ b) → a = b
  | [], [], _, _, _ => rfl
  | [], y :: ys, _, _, h => by have := (h y).mpr List.mem_cons_self; cases this
  | x :: xs, [], _, _, h => by have := (h x).mp List.mem_cons_self; cases this
  | x :: xs, y :: ys, ha, hb, h => by
    obtain ⟨a1, a2⟩ := List.pairwise_cons.mp ha
    obtain ⟨b1, b2⟩ := List.pairwise_cons.mp hb
    have e : x = y := by
      rcases List.mem_cons.mp ((h x).mp List.mem_cons_self) with e | e
      · exact e
      · rcases List.mem_cons.mp ((h y).mpr List.mem_cons_self) with e2 | e2
        · exact e2.symm
        · have := b1 x e; have := a1 y e2; omega
    subst e
    rw [asc_ext a2 b2 fun z => ⟨fun hz => ?_, fun hz => ?_⟩]
    · rcases List.mem_cons.mp ((h z).mp (List.mem_cons_of_mem _ hz)) with e | e
      · subst e; have := a1 _ hz; omega
      · exact e
    · rcases List.mem_cons.mp ((h z).mpr (List.mem_cons_of_mem _ hz)) with e | e
      · subst e; have := b1 _ hz; omega
      · exact e
/-! ### the law's divisor -/
theorem maxI_is {g : Int} : ∀ {xs : List Int}, g ∈ xs → (∀ x ∈ xs, x ≤ g) → maxI xs = g
  | [], h, _ => by cases h
  | [a], h, _ => by rw [List.mem_singleton.mp h]; rfl
  | a :: b :: r, h, hx => by
    show (if a ≥ maxI (b :: r) then a else maxI (b :: r)) = g
    have ha := hx a List.mem_cons_self
    by_cases hm : g ∈ b :: r
    · rw [maxI_is hm fun x hx' => hx x (List.mem_cons_of_mem _ hx')]
      by_cases e : a ≥ g
      · rw [if_pos e]; omega
      · rw [if_neg e]
    · rcases List.mem_cons.mp h with e | e
      · subst e
        have : ∀ {ys : List Int}, (∀ y ∈ ys, y ≤ g) → ys ≠ [] → maxI ys ≤ g := by
          intro ys
          induction ys with
          | nil => intro _ z; exact absurd rfl z
          | cons y ys ih =>
            intro h1 _
            cases ys with
            | nil => exact h1 y List.mem_cons_self
            | cons z zs =>
              show (if y ≥ maxI (z :: zs) then y else maxI (z :: zs)) ≤ g
              have i1 := ih (fun w hw => h1 w (List.mem_cons_of_mem _ hw)) (by simp)
              have i2 := h1 y List.mem_cons_self
              by_cases e : y ≥ maxI (z :: zs)
              · rw [if_pos e]; exact i2
              · rw [if_neg e]; exact i1
        have := this (ys := b :: r) (fun y hy => hx y (List.mem_cons_of_mem _ hy)) (by simp)
        rw [if_pos this]
      · exact absurd e hm
theorem gcds_dvd (cs : List Nat) : ∀ g0 d, d ∣ cs.foldl (fun g c => Nat.gcd c g) g0 ↔ (d ∣ g0 ∧ ∀ c ∈ cs, d ∣ c) := by
  induction cs with
  | nil => intro g0 d; simp
  | cons c r ih =>
    intro g0 d
    show d ∣ r.foldl _ (Nat.gcd c g0) ↔ _
    rw [ih, Nat.dvd_gcd_iff]
    simp [and_assoc, and_comm, and_left_comm]
theorem dvd_gcds {cs : List Nat} {d : Nat} : d ∣ gcds cs ↔ ∀ c ∈ cs, d ∣ c := by
  unfold gcds
  rw [gcds_dvd]
  simp
/-- the list of what goes into each coin -/
theorem ldiv_gen {t : D} {cs : List Nat} (p : Pu cs) (ht : itemsOf t = .ok (dN cs)) (hix : ∀ y, gIx t y = gIx (.tup (dN cs)) y) : f_l_divisor [t] = .rt (dI (gcds cs)) := by
  obtain ⟨c0, r, e⟩ := List.exists_cons_of_ne_nil p.ne
  have hl := p.len
  have hc0 : c0 ∈ cs := e ▸ List.mem_cons_self
  have p0 := p.pos c0 hc0
  have t0 := p.top c0 hc0
  have e0 : gIx t (.int 0) = .ok (dI c0) := by
    rw [hix]
    show ofO (atI (dN cs) ((0 : Nat) : Int)) = _
    rw [atI_nat (v := dI c0) (by rw [e]; rfl)]
    rfl
  have e2 : nComp (iR2 (cst (.int 1)) (op2 gAdd (op2 gIx (vI 0) (cst (.int 0))) (cst (.int 1)))) (gNm 1) [1] (tBl (op2 gEq (toE (nComp (iS (vI 0)) (gNm 2) [2] (tBl (op2 gGt (op2 gMod (vI 2) (vI 1)) (cst (.int 0)))) (cst (.int 1)))) (toE (nLst aNil)))) (vI 1) [.imm t, .no, .no] =
      .ok (dN ((List.range' 1 c0).filter fun d => (cs.filter fun c => decide (0 < c % d)).isEmpty)) := by
    have es : iR2 (cst (.int 1)) (op2 gAdd (op2 gIx (vI 0) (cst (.int 0))) (cst (.int 1))) [.imm t, .no, .no] = .ok (dN (List.range' 1 c0)) := by
      have b1 := in62 (i := 1) (by omega) (by omega)
      have b2 := in62 (i := (c0 : Int) + 1) (by omega) (by omega)
      rw [iR2_i (i := 1) (j := (c0 : Int) + 1) rfl (by simp [e0]) ⟨b1.1, b1.2, b2.1, b2.2⟩, show ((c0 : Int) + 1 - 1).toNat = c0 by omega]
      exact congrArg Rs.ok (rng_r' 1 c0)
    refine comp_keep es (by rw [List.length_range']; omega) fun d hd => ⟨?_, fun _ => by simp⟩
    have hd1 : 1 ≤ d := by have := List.mem_range'_1.mp hd; omega
    have e3 : nComp (iS (vI 0)) (gNm 2) [2] (tBl (op2 gGt (op2 gMod (vI 2) (vI 1)) (cst (.int 0)))) (cst (.int 1)) [.imm t, .imm (dI d), .no] = .ok ((cs.filter fun c => decide (0 < c % d)).map fun _ => D.int 1) := by
      refine comp_keep ht (by omega) fun c hc => ⟨?_, fun _ => rfl⟩
      have em : gMod (dI c) (dI d) = .ok (.int ((c % d : Nat) : Int)) := by
        rw [gMod_s (by omega)]; rfl
      simp [em]
      omega
    have e4 := eq_nil_ones (cs.filter fun c => decide (0 < c % d))
    simp [-nComp_s, e3]
    rw [show (List.filter (fun c => decide (0 < c % d)) cs).map (fun _ => D.int 1) = (cs.filter fun c => decide (0 < c % d)).map fun _ => D.int 1 from rfl, e4]
    simp
  have hg : ∀ d, (cs.filter fun c => decide (0 < c % d)).isEmpty = decide (d ∣ gcds cs) := by
    intro d
    rw [Bool.eq_iff_iff, List.isEmpty_iff, List.filter_eq_nil_iff, decide_eq_true_iff, dvd_gcds]
    refine ⟨fun h c hc => Nat.dvd_of_mod_eq_zero ?_, fun h c hc => ?_⟩
    · have := h c hc
      simp at this
      exact this
    · have := Nat.mod_eq_zero_of_dvd (h c hc)
      simp [this]
  have g1 : gcds cs ∣ c0 := dvd_gcds.mp (Nat.dvd_refl _) c0 hc0
  have g2 : gcds cs ≤ c0 := Nat.le_of_dvd p0 g1
  have g3 : 0 < gcds cs := Nat.pos_of_dvd_of_pos g1 p0
  have e5 : lstO bMax (.lst (dN ((List.range' 1 c0).filter fun d => (cs.filter fun c => decide (0 < c % d)).isEmpty))) = .ok (dI (gcds cs)) := by
    have hm : gcds cs ∈ (List.range' 1 c0).filter fun d => (cs.filter fun c => decide (0 < c % d)).isEmpty :=
      List.mem_filter.mpr ⟨List.mem_range'_1.mpr (by omega), by rw [hg]; exact decide_eq_true (Nat.dvd_refl _)⟩
    show bMax (.lst _) = _
    rw [dN_ints]
    show (match asInts (dInts _) with
      | some ns => (if ns.isEmpty then Rs.bad else .ok (D.int (maxI ns)))
      | none => .bad) = _
    rw [asInts_ints]
    show (if (zs _).isEmpty = true then Rs.bad else .ok (D.int (maxI (zs _)))) = _
    have hz := zs_mem (x := ((gcds cs : Nat) : Int)).mpr ⟨_, hm, rfl⟩
    rw [if_neg (by intro z; rw [List.isEmpty_iff.mp z] at hz; cases hz)]
    rw [maxI_is hz fun x hx => by
      obtain ⟨d, hd, ed⟩ := zs_mem.mp hx
      have h2 := (List.mem_filter.mp hd).2
      rw [hg] at h2
      have := Nat.le_of_dvd g3 (of_decide_eq_true h2)
      omega]
  refine (run_s (by rfl)).trans ?_
  simp [-nComp_s, b_l_divisor, startE, e2, -List.filter_filter]
  first | rw [e5] | skip
  exact endF_rt rfl
theorem ldiv_ok {cs : List Nat} (p : Pu cs) : f_l_divisor [.tup (dN cs)] = .rt (dI (gcds cs)) := ldiv_gen p rfl fun _ => rfl
theorem ldiv_lst {cs : List Nat} (p : Pu cs) : f_l_divisor [.lst (dN cs)] = .rt (dI (gcds cs)) := ldiv_gen p rfl fun y => by cases y <;> rfl
end GP

/-! GPf: the drawn purse. -/
namespace GP
open GM
/-- a drawn purse -/
structure Dr (m : Nat) (cs : List Nat) : Prop where
  ne : cs ≠ []
  len : cs.length ≤ 4
  asc : cs.Pairwise (· < ·)
  pos : ∀ c ∈ cs, 1 ≤ c
  top : ∀ c ∈ cs, c ≤ m
theorem Dr.pu {m : Nat} {cs : List Nat} (d : Dr m cs) (h : m ≤ 400) : Pu cs := ⟨d.ne, Nat.le_trans d.len (by omega), d.asc, d.pos, fun c hc => Nat.le_trans (d.top c hc) h⟩
theorem coins_dr (ns : List Int) {i m : Nat} (hm : 0 < m) : Dr m (setN (coinsN ns i m)) where
  ne := setN_ne (by unfold coinsN; intro z; have := congrArg List.length z; rw [List.length_map, List.length_range] at this; simp at this)
  len := by
    have h := setN_len (coinsN ns i m)
    have : (coinsN ns i m).length ≤ 4 := by
      unfold coinsN
      rw [List.length_map, List.length_range]
      have := mixN_lt (v := cellI ns i) (p := 9973) (k := 4) (by omega)
      omega
    omega
  asc := setN_asc _
  pos := fun c hc => by
    obtain ⟨k, _, e⟩ := List.mem_map.mp (mem_setN.mp hc)
    rw [← e]; unfold coinN; omega
  top := fun c hc => by
    obtain ⟨k, _, e⟩ := List.mem_map.mp (mem_setN.mp hc)
    rw [← e]; unfold coinN
    have := mixN_lt (v := cellI ns (i + 1 + k) + 17 * (k : Int) * (k : Int)) (p := 9967) (k := m) hm
    omega
def mostN (ns : List Int) (i : Nat) : Nat := match mixN (cellI ns i) 9949 3 with
  | 0 => 9
  | 1 => 14
  | _ => 24
theorem mostN_b (ns : List Int) (i : Nat) : 0 < mostN ns i ∧ mostN ns i ≤ 24 := by
  unfold mostN
  split <;> omega
def purseN (ns : List Int) (i : Nat) : List Nat := setN (coinsN ns i (mostN ns i))
theorem purseN_dr (ns : List Int) (i : Nat) : Dr 24 (purseN ns i) := by
  have d := coins_dr ns (i := i) (mostN_b ns i).1
  exact ⟨d.ne, d.len, d.asc, d.pos, fun c hc => Nat.le_trans (d.top c hc) (mostN_b ns i).2⟩
end GP

/-! GPg: the least sums. -/
namespace GP
open GM
/-! ### sums over a list that is written at a place -/
def sumW (w : Option Nat → Nat) : List (Option Nat) → Nat
  | [] => 0
  | x :: r => w x + sumW w r
theorem sumW_set (w : Option Nat → Nat) {x y : Option Nat} : ∀ {f : List (Option Nat)} {i : Nat}, f[i]? = some y → sumW w (f.set i x) + w y = sumW w f + w x
  | [], i, h => by simp at h
  | z :: r, 0, h => by
    have : z = y := by simpa using h
    subst this
    show w x + sumW w r + w z = w z + sumW w r + w x
    omega
  | z :: r, i + 1, h => by
    have := sumW_set w (x := x) (f := r) (i := i) (y := y) (by simpa using h)
    show w z + sumW w (r.set i x) + w y = w z + sumW w r + w x
    omega
theorem sumW_le (w : Option Nat → Nat) (b : Nat) : ∀ {f : List (Option Nat)}, (∀ x ∈ f, w x ≤ b) → sumW w f ≤ b * f.length
  | [], _ => Nat.zero_le _
  | x :: r, h => by
    have h1 := h x List.mem_cons_self
    have h2 := sumW_le w b (f := r) fun y hy => h y (List.mem_cons_of_mem _ hy)
    show w x + sumW w r ≤ b * (r.length + 1)
    rw [Nat.mul_succ]
    omega
def wS : Option Nat → Nat
  | none => 0
  | some _ => 1
def wM (a b : Nat) : Option Nat → Nat
  | none => b
  | some v => v / a
theorem get_set_eq {f : List (Option Nat)} {i : Nat} {x y : Option Nat} (h : f[i]? = some y) : (f.set i x)[i]? = some x := by
  rw [List.getElem?_set, if_pos rfl, if_pos (List.getElem?_eq_some_iff.mp h).1]
theorem get_set_ne {f : List (Option Nat)} {i j : Nat} {x : Option Nat} (h : j ≠ i) : (f.set i x)[j]? = f[j]? := by
  rw [List.getElem?_set, if_neg (fun e => h e.symm)]
/-! ### the steps -/
abbrev Sta := List (Option Nat) × List Nat
def stepC (a v : Nat) (st : Sta) (c : Nat) : Sta := match st.1[(v + c) % a]? with
  | some none => (st.1.set ((v + c) % a) (some (v + c)), st.2 ++ [(v + c) % a])
  | some (some w) => if v + c < w then (st.1.set ((v + c) % a) (some (v + c)), st.2 ++ [(v + c) % a]) else st
  | none => st
structure LsI (cs : List Nat) (a m : Nat) (st : Sta) : Prop where
  len : st.1.length = a
  zero : st.1[0]? = some (some 0)
  made : ∀ r v : Nat, st.1[r]? = some (some v) → v % a = r ∧ Mk cs v
  todo : ∀ r ∈ st.2, ∃ v, st.1[r]? = some (some v)
  bound : ∀ r v : Nat, st.1[r]? = some (some v) → v ≤ m * sumW wS st.1
def Clo (tl : List Nat) (a : Nat) (st : Sta) (v : Nat) : Prop := ∀ c ∈ tl, ∃ w, st.1[(v + c) % a]? = some (some w) ∧ w ≤ v + c
def phi (a b : Nat) (st : Sta) : Nat := 2 * sumW (wM a b) st.1 + st.2.length
theorem mod_get {cs : List Nat} {a m : Nat} {st : Sta} (I : LsI cs a m st) (ha : 0 < a) (n : Nat) : ∃ y, st.1[n % a]? = some y :=
  ⟨_, List.getElem?_eq_getElem (by rw [I.len]; exact Nat.mod_lt _ ha)⟩
/-- what a writing does -/
theorem set_ok {cs : List Nat} {a m b : Nat} {st : Sta} (I : LsI cs a m st) (ha : 0 < a) (hb : m < b) {v c r0 : Nat} {y : Option Nat} (hv : st.1[r0]? = some (some v)) (hc : c ∈ cs) (hcm : c ≤ m) (hc1 : 1 ≤ c)
    (hy : st.1[(v + c) % a]? = some y) (hlt : ∀ w, y = some w → v + c < w) :
    LsI cs a m (st.1.set ((v + c) % a) (some (v + c)), st.2 ++ [(v + c) % a]) ∧ phi a b (st.1.set ((v + c) % a) (some (v + c)), st.2 ++ [(v + c) % a]) + 1 ≤ phi a b st ∧
      (v + c) % a ≠ r0 ∧ (∀ r u : Nat, st.1[r]? = some (some u) → ∃ w, (st.1.set ((v + c) % a) (some (v + c)))[r]? = some (some w) ∧ w ≤ u) ∧ (v + c) / a < wM a b y := by
  have hcnt := sumW_set wS (x := some (v + c)) hy
  have hmea := sumW_set (wM a b) (x := some (v + c)) hy
  have hle : sumW wS st.1 ≤ a := by
    have := sumW_le wS 1 (f := st.1) fun x _ => by cases x <;> simp [wS]
    rw [I.len, Nat.one_mul] at this
    exact this
  have hvb := I.bound r0 v hv
  have hle' : sumW wS (st.1.set ((v + c) % a) (some (v + c))) ≤ a := by
    have := sumW_le wS 1 (f := st.1.set ((v + c) % a) (some (v + c))) fun x _ => by cases x <;> simp [wS]
    rw [List.length_set, I.len, Nat.one_mul] at this
    exact this
  have hsame : (v + c) % a ≠ r0 := by
    intro e
    rw [e, hv] at hy
    cases hy
    have := hlt v rfl
    omega
  have hnew : v + c ≤ m * sumW wS (st.1.set ((v + c) % a) (some (v + c))) ∧ sumW wS st.1 ≤ sumW wS (st.1.set ((v + c) % a) (some (v + c))) := by
    cases y with
    | none =>
      have e : sumW wS (st.1.set ((v + c) % a) (some (v + c))) = sumW wS st.1 + 1 := by
        have : wS none = 0 := rfl
        have : wS (some (v + c)) = 1 := rfl
        omega
      rw [e, Nat.mul_succ]
      omega
    | some w =>
      have e : sumW wS (st.1.set ((v + c) % a) (some (v + c))) = sumW wS st.1 := by
        have : wS (some w) = 1 := rfl
        have : wS (some (v + c)) = 1 := rfl
        omega
      rw [e]
      have h1 := I.bound _ w hy
      have h2 := hlt w rfl
      omega
  have hbig : (v + c) / a < b := by
    have : m * sumW wS (st.1.set ((v + c) % a) (some (v + c))) ≤ m * a := Nat.mul_le_mul_left m hle'
    have : (v + c) / a ≤ m := Nat.div_le_of_le_mul (by rw [Nat.mul_comm]; omega)
    omega
  have hwy : (v + c) / a < wM a b y := by
    cases y with
    | none => exact hbig
    | some w =>
      have h1 := hlt w rfl
      have h2 := (I.made _ w hy).1
      have e1 := Nat.div_add_mod (v + c) a
      have e2 := Nat.div_add_mod w a
      rw [h2] at e2
      have : a * ((v + c) / a) < a * (w / a) := by omega
      exact Nat.lt_of_mul_lt_mul_left this
  have hpos : v + c ≠ 0 := by omega
  refine ⟨⟨by rw [List.length_set]; exact I.len, ?_, fun r u hr => ?_, fun r hr => ?_, fun r u hr => ?_⟩, ?_, hsame, fun r u hr => ?_, hwy⟩
  · by_cases e : (0 : Nat) = (v + c) % a
    · rw [← e, I.zero] at hy
      cases hy
      have := hlt 0 rfl
      omega
    · show (st.1.set _ _)[0]? = _
      rw [get_set_ne e]; exact I.zero
  · by_cases e : r = (v + c) % a
    · subst e
      change (st.1.set _ _)[_]? = _ at hr
      rw [get_set_eq hy] at hr
      cases hr
      exact ⟨rfl, .add hc (I.made r0 v hv).2⟩
    · change (st.1.set _ _)[_]? = _ at hr
      rw [get_set_ne e] at hr
      exact I.made r u hr
  · rcases List.mem_append.mp hr with h | h
    · obtain ⟨u, hu⟩ := I.todo r h
      by_cases e : r = (v + c) % a
      · subst e
        exact ⟨_, get_set_eq hy⟩
      · exact ⟨u, by show (st.1.set _ _)[_]? = _; rw [get_set_ne e]; exact hu⟩
    · rw [List.mem_singleton.mp h]
      exact ⟨_, get_set_eq hy⟩
  · by_cases e : r = (v + c) % a
    · subst e
      change (st.1.set _ _)[_]? = _ at hr
      rw [get_set_eq hy] at hr
      cases hr
      exact hnew.1
    · change (st.1.set _ _)[_]? = _ at hr
      rw [get_set_ne e] at hr
      exact Nat.le_trans (I.bound r u hr) (Nat.mul_le_mul_left m hnew.2)
  · unfold phi
    rw [List.length_append]
    have e : wM a b (some (v + c)) = (v + c) / a := rfl
    show 2 * sumW (wM a b) (st.1.set _ _) + (st.2.length + 1) + 1 ≤ 2 * sumW (wM a b) st.1 + st.2.length
    omega
  · by_cases e : r = (v + c) % a
    · subst e
      rw [hr] at hy
      cases hy
      exact ⟨_, get_set_eq hr, by have := hlt u rfl; omega⟩
    · exact ⟨u, by rw [get_set_ne e]; exact hr, Nat.le_refl _⟩
/-- one coin -/
theorem step_ok {cs tl : List Nat} {a m b : Nat} {st : Sta} (I : LsI cs a m st) (ha : 0 < a) (hb : m < b) {v c r0 : Nat} (hv : st.1[r0]? = some (some v)) (hc : c ∈ cs) (hcm : c ≤ m) (hc1 : 1 ≤ c)
    (cl : ∀ r u : Nat, st.1[r]? = some (some u) → r ∉ st.2 → r ≠ r0 → Clo tl a st u) {done : List Nat} (dn : Clo done a st v) :
    LsI cs a m (stepC a v st c) ∧ phi a b (stepC a v st c) ≤ phi a b st ∧ (stepC a v st c).1[r0]? = some (some v) ∧
      (∀ r u : Nat, (stepC a v st c).1[r]? = some (some u) → r ∉ (stepC a v st c).2 → r ≠ r0 → Clo tl a (stepC a v st c) u) ∧ Clo (c :: done) a (stepC a v st c) v := by
  obtain ⟨y, hy⟩ := mod_get I ha (v + c)
  have written : (∀ w, y = some w → v + c < w) → stepC a v st c = (st.1.set ((v + c) % a) (some (v + c)), st.2 ++ [(v + c) % a]) → LsI cs a m (stepC a v st c) ∧ phi a b (stepC a v st c) ≤ phi a b st ∧ (stepC a v st c).1[r0]? = some (some v) ∧
      (∀ r u : Nat, (stepC a v st c).1[r]? = some (some u) → r ∉ (stepC a v st c).2 → r ≠ r0 → Clo tl a (stepC a v st c) u) ∧ Clo (c :: done) a (stepC a v st c) v := fun hlt e => by
    obtain ⟨I', hp, hne, hmono, _⟩ := set_ok I ha hb hv hc hcm hc1 hy hlt
    rw [e]
    have up : ∀ {l : List Nat} {u : Nat}, Clo l a st u → Clo l a (st.1.set ((v + c) % a) (some (v + c)), st.2 ++ [(v + c) % a]) u := fun h d hd => by
      obtain ⟨w, h1, h2⟩ := h d hd
      obtain ⟨w', h3, h4⟩ := hmono _ w h1
      exact ⟨w', h3, Nat.le_trans h4 h2⟩
    refine ⟨I', by omega, by show (st.1.set _ _)[_]? = _; rw [get_set_ne hne.symm]; exact hv, fun r u hr hn hr0 => ?_, fun d hd => ?_⟩
    · have e1 : r ≠ (v + c) % a := fun z => hn (List.mem_append_right _ (by rw [z]; exact List.mem_singleton.mpr rfl))
      change (st.1.set _ _)[_]? = _ at hr
      rw [get_set_ne e1] at hr
      exact up (cl r u hr (fun z => hn (List.mem_append_left _ z)) hr0)
    · rcases List.mem_cons.mp hd with z | z
      · rw [z]; exact ⟨v + c, get_set_eq hy, Nat.le_refl _⟩
      · exact up dn d z
  cases y with
  | none => exact written (fun w z => by cases z) (by unfold stepC; rw [hy])
  | some w =>
    by_cases h : v + c < w
    · exact written (fun w' z => by cases z; exact h) (by unfold stepC; rw [hy]; exact if_pos h)
    · have e : stepC a v st c = st := by unfold stepC; rw [hy]; exact if_neg h
      rw [e]
      refine ⟨I, Nat.le_refl _, hv, cl, fun d hd => ?_⟩
      rcases List.mem_cons.mp hd with z | z
      · rw [z]; exact ⟨w, hy, by omega⟩
      · exact dn d z
theorem steps_ok {cs tl : List Nat} {a m b : Nat} (ha : 0 < a) (hb : m < b) {v r0 : Nat} : ∀ (rest done : List Nat) (st : Sta), LsI cs a m st → st.1[r0]? = some (some v) → (∀ c ∈ rest, c ∈ cs ∧ c ≤ m ∧ 1 ≤ c) →
    (∀ r u : Nat, st.1[r]? = some (some u) → r ∉ st.2 → r ≠ r0 → Clo tl a st u) → Clo done a st v → 
    LsI cs a m (rest.foldl (stepC a v) st) ∧ phi a b (rest.foldl (stepC a v) st) ≤ phi a b st ∧ (rest.foldl (stepC a v) st).1[r0]? = some (some v) ∧
      (∀ r u : Nat, (rest.foldl (stepC a v) st).1[r]? = some (some u) → r ∉ (rest.foldl (stepC a v) st).2 → r ≠ r0 → Clo tl a (rest.foldl (stepC a v) st) u) ∧ (∀ c, c ∈ rest ∨ c ∈ done → ∃ w, (rest.foldl (stepC a v) st).1[(v + c) % a]? = some (some w) ∧ w ≤ v + c)
  | [], done, st, I, hv, _, cl, dn => ⟨I, Nat.le_refl _, hv, cl, fun c hc => dn c (hc.resolve_left fun z => by cases z)⟩
  | c :: rest, done, st, I, hv, hr, cl, dn => by
    obtain ⟨h1, h2, h3⟩ := hr c List.mem_cons_self
    obtain ⟨I1, p1, v1, cl1, dn1⟩ := step_ok I ha hb hv h1 h2 h3 cl dn
    obtain ⟨I2, p2, v2, cl2, dn2⟩ := steps_ok ha hb rest (c :: done) _ I1 v1 (fun d hd => hr d (List.mem_cons_of_mem _ hd)) cl1 dn1
    refine ⟨I2, Nat.le_trans p2 p1, v2, cl2, fun d hd => dn2 d ?_⟩
    rcases hd with z | z
    · rcases List.mem_cons.mp z with z | z
      · exact .inr (z ▸ List.mem_cons_self)
      · exact .inl z
    · exact .inr (List.mem_cons_of_mem _ z)
end GP

/-! GPh: least_sums, walked. -/
namespace GP
open GM
def oD : Option Nat → D
  | none => .non
  | some v => .int (v : Int)
def fD (f : List (Option Nat)) : List D := f.map oD
theorem fD_len (f : List (Option Nat)) : (fD f).length = f.length := List.length_map _
theorem fD_ix {f : List (Option Nat)} {r : Nat} {y : Option Nat} (h : f[r]? = some y) : gIx (.lst (fD f)) (dI r) = .ok (oD y) := by
  show ofO (atI (fD f) (r : Int)) = _
  rw [atI_nat (v := oD y) (by unfold fD; rw [List.getElem?_map, h]; rfl)]
  rfl
theorem fD_set (f : List (Option Nat)) (r n : Nat) : (fD f).set r (.int (n : Int)) = fD (f.set r (some n)) := by unfold fD; rw [List.map_set]; rfl
theorem noLs_fD (f : List (Option Nat)) : noLs (fD f) = true := noLs_map (fun x => by cases x <;> rfl) f
theorem ixN_nat {n r : Nat} (h : r < n) : ixN n (r : Int) = some r := by unfold ixN; rw [if_pos (by omega), if_pos (by omega)]; rfl
theorem capS_big {n : Nat} {k : So} (h : n ≤ 9000000) : capS n k = k := if_pos (by unfold lim; omega)
theorem mod_ok {v c a : Nat} (ha : 0 < a) : gMod (.int ((v : Int) + (c : Int))) (dI a) = .ok (dI ((v + c) % a)) := by
  rw [gMod_s (by omega)]
  rfl
theorem stp_phi {a b : Nat} {st : Sta} : st.2.length ≤ phi a b st := by unfold phi; omega
/-- the least sums of a purse -/
structure Ls (cs : List Nat) (a m : Nat) (f : List (Option Nat)) : Prop where
  len : f.length = a
  made : ∀ r v : Nat, f[r]? = some (some v) → v % a = r ∧ Mk cs v
  least : ∀ n, Mk cs n → ∃ w, f[n % a]? = some (some w) ∧ w ≤ n
  top : ∀ r v : Nat, f[r]? = some (some v) → v ≤ m * a
theorem ls_of {a m : Nat} {tl : List Nat} {f : List (Option Nat)} (ha : 0 < a) (I : LsI (a :: tl) a m (f, [])) (cl : ∀ r u : Nat, f[r]? = some (some u) → Clo tl a (f, []) u) : Ls (a :: tl) a m f where
  len := I.len
  made := I.made
  top := fun r v h => by
    have h1 := sumW_le wS 1 (f := f) fun x _ => by cases x <;> simp [wS]
    have h2 : f.length = a := I.len
    rw [h2, Nat.one_mul] at h1
    exact Nat.le_trans (I.bound r v h) (Nat.mul_le_mul_left m h1)
  least := fun n h => by
    induction h with
    | zero => exact ⟨0, by rw [Nat.zero_mod]; exact I.zero, Nat.le_refl _⟩
    | @add n c hc _ ih =>
      obtain ⟨w, h1, h2⟩ := ih
      rcases List.mem_cons.mp hc with e | e
      · subst e
        exact ⟨w, by rw [Nat.add_mod_right]; exact h1, by omega⟩
      · obtain ⟨u, h3, h4⟩ := cl _ w h1 c e
        have h5 := (I.made _ w h1).1
        refine ⟨u, ?_, by omega⟩
        rw [show (n + c) % a = (w + c) % a by rw [Nat.add_mod n, ← h5, ← Nat.add_mod]]
        exact h3
theorem turn_ls (P x3 : SV) {a v c : Nat} {st : Sta} (hl : st.1.length = a) (ha : 0 < a) (hs : st.2.length ≤ 9000000) :
    o_least_sums0 [P, .imm (dI a), .own (fD st.1), x3, .own (dN st.2), .imm (dI v), .imm (dI c)] = .nx [P, .imm (dI a), .own (fD (stepC a v st c).1), .imm (dI ((v + c) % a)), .own (dN (stepC a v st c).2), .imm (dI v), .imm (dI c)] := by
  have hr : (v + c) % a < st.1.length := by rw [hl]; exact Nat.mod_lt _ ha
  obtain ⟨y, hy⟩ : ∃ y, st.1[(v + c) % a]? = some y := ⟨_, List.getElem?_eq_getElem hr⟩
  have e1 := mod_ok (v := v) (c := c) ha
  have e2 := fD_ix hy
  have e3 : ixN (fD st.1).length (((v + c) % a : Nat) : Int) = some ((v + c) % a) := by rw [fD_len]; exact ixN_nat hr
  have e4 := fD_set st.1 ((v + c) % a) (v + c)
  have e5 : dN st.2 ++ [dI ((v + c) % a)] = dN (st.2 ++ [(v + c) % a]) := by unfold dN; rw [List.map_append]; rfl
  have e6 : (dN st.2).length ≤ 9000000 := by rw [dN_len]; exact hs
  rw [show (((v + c : Nat)) : Int) = (v : Int) + (c : Int) from rfl] at e4
  have hst : stepC a v st c = match st.1[(v + c) % a]? with
    | some none => (st.1.set ((v + c) % a) (some (v + c)), st.2 ++ [(v + c) % a])
    | some (some w) => if v + c < w then (st.1.set ((v + c) % a) (some (v + c)), st.2 ++ [(v + c) % a]) else st
    | none => st := rfl
  rw [hy] at hst
  generalize stepC a v st c = S at hst
  generalize (v + c) % a = q at hr hy e1 e2 e3 e4 e5 hst
  have go : (sSeq (sPut 2 (vI 3) (op2 gAdd (vI 5) (vI 6))) (sApp 4 (vI 3))) [P, .imm (dI a), .own (fD st.1), .imm (dI q), .own (dN st.2), .imm (dI v), .imm (dI c)] =
      .nx [P, .imm (dI a), .own (fD (st.1.set q (some (v + c)))), .imm (dI q), .own (dN (st.2 ++ [q])), .imm (dI v), .imm (dI c)] := by
    simp only [sSeq_s, sPut, op2_s, vI_s, List.getElem?_cons_succ, List.getElem?_cons_zero, Rs.bind_ok, gAdd_s, liftS_ok, e3, e4, List.set_cons_succ, List.set_cons_zero, sApp_s, capS_big e6, e5]
  rw [o_least_sums0_s]
  have h3 : sSet 3 (op2 gMod (op2 gAdd (vI 5) (vI 6)) (vI 1)) [P, .imm (dI a), .own (fD st.1), x3, .own (dN st.2), .imm (dI v), .imm (dI c)] = .nx [P, .imm (dI a), .own (fD st.1), .imm (dI q), .own (dN st.2), .imm (dI v), .imm (dI c)] := by
    simp only [sSet_s, op2_s, vI_s, List.getElem?_cons_succ, List.getElem?_cons_zero, Rs.bind_ok, gAdd_s, e1, liftS_ok, List.set_cons_succ, List.set_cons_zero]
  rw [sSeq_s, h3]
  show sIf _ _ _ _ = _
  have h4 : (op2 gIx (vO 2) (vI 3)) [P, .imm (dI a), .own (fD st.1), .imm (dI q), .own (dN st.2), .imm (dI v), .imm (dI c)] = .ok (oD y) := by
    simp only [op2_s, vO_s, vI_s, List.getElem?_cons_succ, List.getElem?_cons_zero, Rs.bind_ok, e2]
  rw [sIf_s, tOr_s, tBl_s, op1_s, h4, Rs.bind_ok]
  cases y with
  | none =>
    subst hst
    rw [gIsN_s, Rs.bind_ok, asB_s, Rs.bind_ok]
    show liftS _ (Rs.ok true) _ = _
    rw [liftS_ok, if_pos rfl]
    exact go
  | some w =>
    rw [gIsN_s, Rs.bind_ok, asB_s, Rs.bind_ok]
    show liftS _ (tBl _ _) _ = _
    rw [tBl_s, op2_s, op2_s, h4]
    simp only [vI_s, List.getElem?_cons_succ, List.getElem?_cons_zero, Rs.bind_ok, gAdd_s, oD, gLt_s, asB_s, liftS_ok]
    by_cases h : v + c < w
    · have h' : (v : Int) + (c : Int) < (w : Int) := by omega
      simp only [if_pos h] at hst
      subst hst
      rw [decide_eq_true h', if_pos rfl]
      exact go
    · have h' : ¬ (v : Int) + (c : Int) < (w : Int) := by omega
      simp only [if_neg h] at hst
      subst hst
      rw [decide_eq_false h', if_neg Bool.false_ne_true, sNx_s]
theorem inner_ls (P : SV) {cs tl : List Nat} {a m b : Nat} (ha : 0 < a) (hb : m < b) {v r0 : Nat} : ∀ (rest done : List Nat) (st : Sta), LsI cs a m st → st.1[r0]? = some (some v) → (∀ c ∈ rest, c ∈ cs ∧ c ≤ m ∧ 1 ≤ c) →
    (∀ r u : Nat, st.1[r]? = some (some u) → r ∉ st.2 → r ≠ r0 → Clo tl a st u) → Clo done a st v → phi a b st ≤ 9000000 → ∀ x3 x6, ∃ y3 y6,
    forGo (gNm 6) o_least_sums0 (dN rest) [P, .imm (dI a), .own (fD st.1), x3, .own (dN st.2), .imm (dI v), x6] = .nx [P, .imm (dI a), .own (fD (rest.foldl (stepC a v) st).1), y3, .own (dN (rest.foldl (stepC a v) st).2), .imm (dI v), y6]
  | [], done, st, I, hv, _, cl, dn, _, x3, x6 => ⟨x3, x6, rfl⟩
  | c :: rest, done, st, I, hv, hr, cl, dn, hp, x3, x6 => by
    obtain ⟨h1, h2, h3⟩ := hr c List.mem_cons_self
    obtain ⟨I1, p1, v1, cl1, dn1⟩ := step_ok I ha hb hv h1 h2 h3 cl dn
    obtain ⟨y3, y6, ih⟩ := inner_ls P ha hb rest (c :: done) _ I1 v1 (fun d hd => hr d (List.mem_cons_of_mem _ hd)) cl1 dn1 (Nat.le_trans p1 hp) (.imm (dI ((v + c) % a))) (.imm (dI c))
    exact ⟨y3, y6, (for_nx rfl (turn_ls P x3 I.len ha (Nat.le_trans stp_phi hp))).trans ih⟩
theorem cut_1 {c : Nat} {r : List Nat} : cut (dN (c :: r)) (some 1) none = dN r := by
  show ((dN (c :: r)).drop (min 1 (dN (c :: r)).length)).take ((dN (c :: r)).length - min 1 (dN (c :: r)).length) = _
  have : (dN (c :: r)).length = (dN r).length + 1 := rfl
  rw [this, show min 1 ((dN r).length + 1) = 1 by omega]
  show (dN r).take _ = _
  exact List.take_of_length_le (by omega)
theorem outer_ls {tl : List Nat} {a m b : Nat} (ha : 0 < a) (ham : a ≤ m) (hb : m < b) (ht : ∀ c ∈ tl, c ≤ m ∧ 1 ≤ c) : ∀ (k : Nat) (st : Sta), LsI (a :: tl) a m st →
    (∀ r u : Nat, st.1[r]? = some (some u) → r ∉ st.2 → Clo tl a st u) → phi a b st ≤ 9000000 → phi a b st < k → ∀ x3 x5 x6, ∃ f y3 y5 y6, Ls (a :: tl) a m f ∧
    whGo (tOf (vO 4)) o_least_sums1 k [.imm (.tup (dN (a :: tl))), .imm (dI a), .own (fD st.1), x3, .own (dN st.2), x5, x6] = .nx [.imm (.tup (dN (a :: tl))), .imm (dI a), .own (fD f), y3, .own [], y5, y6]
  | 0, st, _, _, _, h, _, _, _ => absurd h (Nat.not_lt_zero _)
  | k + 1, (f, []), I, cl, hp, hk, x3, x5, x6 => ⟨f, x3, x5, x6, ls_of ha I fun r u hr => cl r u hr (by simp), by unfold whGo; rfl⟩
  | k + 1, (f, r0 :: todo), I, cl, hp, hk, x3, x5, x6 => by
    obtain ⟨v, hv⟩ := I.todo r0 List.mem_cons_self
    have I0 : LsI (a :: tl) a m (f, todo) := ⟨I.len, I.zero, I.made, fun r hr => I.todo r (List.mem_cons_of_mem _ hr), I.bound⟩
    have hp0 : phi a b (f, todo) + 1 = phi a b (f, r0 :: todo) := rfl
    have cl0 : ∀ r u : Nat, f[r]? = some (some u) → r ∉ todo → r ≠ r0 → Clo tl a (f, todo) u := fun r u h1 h2 h3 => cl r u h1 fun z => (List.mem_cons.mp z).elim h3 h2
    have hr : ∀ c ∈ tl, c ∈ a :: tl ∧ c ≤ m ∧ 1 ≤ c := fun c hc => ⟨List.mem_cons_of_mem _ hc, ht c hc⟩
    obtain ⟨I2, p2, v2, cl2, dn2⟩ := steps_ok (b := b) ha hb tl [] (f, todo) I0 hv hr cl0 (fun c hc => by cases hc)
    obtain ⟨y3, y6, hin⟩ := inner_ls (.imm (.tup (dN (a :: tl)))) (b := b) ha hb tl [] (f, todo) I0 hv hr cl0 (fun c hc => by cases hc) (by omega) x3 x6
    obtain ⟨f', z3, z5, z6, L, ih⟩ := outer_ls ha ham hb ht k (tl.foldl (stepC a v) (f, todo)) I2 (fun r u h1 h2 => by
      by_cases e : r = r0
      · subst e
        rw [v2] at h1
        cases h1
        exact fun c hc => dn2 c (.inl hc)
      · exact cl2 r u h1 h2 e) (by omega) (by omega) y3 (.imm (dI v)) y6
    refine ⟨f', z3, z5, z6, L, ?_⟩
    have e0 : atI (fD f) (r0 : Int) = some (.int (v : Int)) := atI_nat (by unfold fD; rw [List.getElem?_map, hv]; rfl)
    have hpop : sPopIx 5 2 4 [.imm (.tup (dN (a :: tl))), .imm (dI a), .own (fD f), x3, .own (dN (r0 :: todo)), x5, x6] = .nx [.imm (.tup (dN (a :: tl))), .imm (dI a), .own (fD f), x3, .own (dN todo), .imm (dI v), x6] := by
      show (match atI (fD f) (r0 : Int) with | some d => So.nx _ | none => .bad) = _
      rw [e0]
      rfl
    have hsrc : iS (eSlT (vI 0) (oAt (cst (.int 1))) oNo) [.imm (.tup (dN (a :: tl))), .imm (dI a), .own (fD f), x3, .own (dN todo), .imm (dI v), x6] = .ok (dN tl) := by
      show itemsOf (.tup (cut (dN (a :: tl)) (some 1) none)) = _
      rw [cut_1]
      rfl
    have hbody : o_least_sums1 [.imm (.tup (dN (a :: tl))), .imm (dI a), .own (fD f), x3, .own (dN (r0 :: todo)), x5, x6] = .nx [.imm (.tup (dN (a :: tl))), .imm (dI a), .own (fD (tl.foldl (stepC a v) (f, todo)).1), y3, .own (dN (tl.foldl (stepC a v) (f, todo)).2), .imm (dI v), y6] := by
      rw [o_least_sums1_s, sSeq_s, hpop]
      show sFor _ _ _ _ = _
      rw [sFor_s, hsrc, liftS_ok]
      exact hin
    conv => lhs; unfold whGo
    show (match o_least_sums1 _ with | .nx q => whGo (tOf (vO 4)) o_least_sums1 k q | .bk q => .nx q | o => o) = _
    rw [hbody]
    exact ih
theorem rep_none (a : Nat) : (List.range a).map (fun _ => D.non) = fD (List.replicate a none) := by
  unfold fD
  rw [List.map_replicate]
  show _ = List.replicate a D.non
  rw [List.map_const', List.length_range]
theorem least_sums_ok {a m : Nat} {tl : List Nat} (p : Pu (a :: tl)) (hm : ∀ c ∈ a :: tl, c ≤ m) (hm2 : m ≤ 400) : ∃ f, Ls (a :: tl) a m f ∧ f_least_sums [.tup (dN (a :: tl))] = .rn (fD f) := by
  have ha : 0 < a := p.pos a List.mem_cons_self
  have ha2 := hm a List.mem_cons_self
  have hrep : (List.replicate a (none : Option Nat))[0]? = some none := by rw [List.getElem?_replicate, if_pos ha]
  have hget : ∀ r v : Nat, ((List.replicate a (none : Option Nat)).set 0 (some 0))[r]? = some (some v) → r = 0 ∧ v = 0 := by
    intro r v h
    by_cases e : r = 0
    · subst e
      rw [get_set_eq hrep] at h
      cases h
      exact ⟨rfl, rfl⟩
    · rw [get_set_ne e, List.getElem?_replicate] at h
      split at h <;> cases h
  have I : LsI (a :: tl) a m ((List.replicate a none).set 0 (some 0), [0]) := {
    len := by rw [List.length_set, List.length_replicate]
    zero := get_set_eq hrep
    made := fun r v h => by
      obtain ⟨h1, h2⟩ := hget r v h
      subst h1 h2
      exact ⟨Nat.zero_mod _, .zero⟩
    todo := fun r h => by rw [List.mem_singleton.mp h]; exact ⟨0, get_set_eq hrep⟩
    bound := fun r v h => by rw [(hget r v h).2]; exact Nat.zero_le _ }
  have hphi : phi a (m + 1) ((List.replicate a none).set 0 (some 0), [0]) ≤ 9000000 := by
    have h := sumW_le (wM a (m + 1)) (m + 1) (f := (List.replicate a none).set 0 (some 0)) fun x hx => by
      rcases List.mem_or_eq_of_mem_set hx with h | h
      · rw [List.eq_of_mem_replicate h]; exact Nat.le_refl _
      · rw [h]; show 0 / a ≤ _; rw [Nat.zero_div]; exact Nat.zero_le _
    rw [List.length_set, List.length_replicate] at h
    have h2 : (m + 1) * a ≤ 401 * 400 := Nat.mul_le_mul (by omega) (Nat.le_trans ha2 hm2)
    unfold phi
    show 2 * sumW (wM a (m + 1)) ((List.replicate a none).set 0 (some 0)) + 1 ≤ _
    omega
  obtain ⟨f, y3, y5, y6, L, hw⟩ := outer_ls (b := m + 1) ha ha2 (Nat.lt_succ_self _) (fun c hc => ⟨hm c (List.mem_cons_of_mem _ hc), p.pos c (List.mem_cons_of_mem _ hc)⟩) 10000000 _ I
    (fun r u h1 h2 => by
      obtain ⟨e, _⟩ := hget r u h1
      exact absurd (by rw [e]; exact List.mem_singleton.mpr rfl) h2) hphi (by omega) .no .no .no
  refine ⟨f, L, ?_⟩
  have hwf := whGo_fuel hw (by simp) (by unfold fuel; omega)
  have e1 : gIx (.tup (dN (a :: tl))) (.int 0) = .ok (dI a) := by
    show ofO (atI (dN (a :: tl)) ((0 : Nat) : Int)) = _
    rw [atI_nat (v := dI a) rfl]; rfl
  have b := in62 (i := (a : Int)) (by omega) (by omega)
  have e2 : nComp (iR1 (vI 1)) (gNm 3) [3] tYes (cst .non) [.imm (.tup (dN (a :: tl))), .imm (dI a), .no, .no, .no, .no, .no] = .ok (fD (List.replicate a none)) := by
    have hs : iR1 (vI 1) [.imm (.tup (dN (a :: tl))), .imm (dI a), .no, .no, .no, .no, .no] = .ok ((List.range a).map dI) := by
      rw [iR1_i (j := (a : Int)) rfl b, show ((a : Int)).toNat = a by omega]
      have := rng_nat 0 a
      rw [show ((0 : Nat) : Int) = 0 from rfl] at this
      rw [this]
      exact congrArg Rs.ok (List.map_congr_left fun j _ => by rw [Nat.zero_add])
    rw [nComp_s, hs, Rs.bind_ok, capC_ok (by rw [List.length_map, List.length_range]; omega), wipe_s, ← rep_none]
    exact lcGo_all dI (fun _ => .non) _ fun k _ => ⟨_, gNm_s _ _ _, rfl⟩
  have e3 : ixN (fD (List.replicate a none)).length 0 = some 0 := by
    have := ixN_nat (n := (fD (List.replicate a none)).length) (r := 0) (by rw [fD_len, List.length_replicate]; exact ha)
    exact this
  have e4 : (fD (List.replicate a none)).set 0 (.int 0) = fD ((List.replicate a none).set 0 (some 0)) := fD_set _ 0 0
  refine (run_s (by rfl)).trans ?_
  have st : startE 7 [.tup (dN (a :: tl))] = [.imm (.tup (dN (a :: tl))), .no, .no, .no, .no, .no, .no] := rfl
  rw [st]
  unfold b_least_sums
  have s1 : sSet 1 (op2 gIx (eCall f_checked (aCons (vI 0) aNil)) (cst (.int 0))) [.imm (.tup (dN (a :: tl))), .no, .no, .no, .no, .no, .no] = .nx [.imm (.tup (dN (a :: tl))), .imm (dI a), .no, .no, .no, .no, .no] := by
    simp only [sSet_s, op2_s, eCall_s, aCons_s, aNil_s, vI_s, cst_s, List.getElem?_cons_succ, List.getElem?_cons_zero, Rs.bind_ok, checked_ok p, roE_rt, e1, liftS_ok, List.set_cons_succ, List.set_cons_zero]
  rw [sSeq_s, s1]
  show endF true (sSeq _ _ _) = _
  rw [sSeq_s, sSetN_s, e2, liftS_ok]
  show endF true (sSeq _ _ [.imm (.tup (dN (a :: tl))), .imm (dI a), .own (fD (List.replicate a none)), .no, .no, .no, .no]) = _
  have s3 : sPut 2 (cst (.int 0)) (cst (.int 0)) [.imm (.tup (dN (a :: tl))), .imm (dI a), .own (fD (List.replicate a none)), .no, .no, .no, .no] = .nx [.imm (.tup (dN (a :: tl))), .imm (dI a), .own (fD ((List.replicate a none).set 0 (some 0))), .no, .no, .no, .no] := by
    show (match ixN (fD (List.replicate a none)).length 0 with | some j => So.nx _ | none => .bad) = _
    rw [e3, ← e4]
    rfl
  rw [sSeq_s, s3]
  show endF true (sSeq _ _ _) = _
  have s4 : sSetN 4 (nLst (aCons (cst (.int 0)) aNil)) [.imm (.tup (dN (a :: tl))), .imm (dI a), .own (fD ((List.replicate a none).set 0 (some 0))), .no, .no, .no, .no] = .nx [.imm (.tup (dN (a :: tl))), .imm (dI a), .own (fD ((List.replicate a none).set 0 (some 0))), .no, .own (dN [0]), .no, .no] := by
    simp only [sSetN_s, nLst_s, aCons_s, aNil_s, cst_s, Rs.bind_ok, List.length_cons, List.length_nil, capC_ok (show 0 + 1 ≤ 100000 by omega), liftS_ok, List.set_cons_succ, List.set_cons_zero]
    rfl
  rw [sSeq_s, s4]
  show endF true (sSeq _ _ _) = _
  rw [sSeq_s, sWh_s, hwf]
  exact endF_rn (noLs_fD f)
end GP

/-! GPi: ranges with a step; what is made, by the least sums. -/
namespace GP
open GM
/-- the numbers of a rest -/
def clsN (r a n : Nat) : List Nat := (List.range n).map fun k => r + k * a
theorem rngC_nat (r a n : Nat) : rngC (r : Int) (a : Int) n = dN (clsN r a n) := by
  unfold rngC clsN dN
  rw [List.map_map]
  refine List.map_congr_left fun k _ => ?_
  show D.int _ = D.int _
  congr 1
/-- how many there are up to far -/
theorem rngSz_nat {r far a : Nat} (ha : 0 < a) (hr : r ≤ far) : rngSz (r : Int) ((far + 1 : Nat) : Int) (a : Int) = (far - r) / a + 1 := by
  unfold rngSz
  rw [if_pos (by omega), if_pos (by omega), show ((far + 1 : Nat) : Int) - (r : Int) - 1 = ((far - r : Nat) : Int) by omega]
  show ((((far - r) / a : Nat) : Int) + 1).toNat = _
  generalize (far - r) / a = q
  omega
theorem iR3_i {a b c : Ee} {r : Env} {i j k : Int} (h1 : a r = .ok (.int i)) (h2 : b r = .ok (.int j)) (h3 : c r = .ok (.int k)) (hk : k ≠ 0) (b1 : -1000000000 ≤ i ∧ i ≤ 1000000000) (b2 : -1000000000 ≤ j ∧ j ≤ 1000000000) (b3 : -1000000000 ≤ k ∧ k ≤ 1000000000) :
    iR3 a b c r = .ok (rngC i k (rngSz i j k)) := by
  unfold iR3
  rw [h1, Rs.bind_ok, h2, Rs.bind_ok, h3, Rs.bind_ok]
  exact if_pos ⟨hk, b1, b2, b3⟩
/-! ### the divisor, and what is made beyond all gaps -/
def Res (cs : List Nat) (a x : Nat) : Prop := ∃ n, Mk cs n ∧ n % a = x % a
theorem Res.zero {cs : List Nat} {a : Nat} : Res cs a 0 := ⟨0, .zero, rfl⟩
theorem Res.add {cs : List Nat} {a x y : Nat} (h : Res cs a x) (g : Res cs a y) : Res cs a (x + y) := by
  obtain ⟨n, h1, h2⟩ := h
  obtain ⟨m, g1, g2⟩ := g
  exact ⟨n + m, h1.plus g1, by rw [Nat.add_mod, h2, g2, ← Nat.add_mod]⟩
theorem Res.mul {cs : List Nat} {a x : Nat} (h : Res cs a x) : ∀ k, Res cs a (k * x)
  | 0 => by rw [Nat.zero_mul]; exact .zero
  | k + 1 => by rw [Nat.succ_mul]; exact (h.mul k).add h
theorem Res.of {cs : List Nat} {a x y : Nat} (h : Res cs a x) (e : x % a = y % a) : Res cs a y := by
  obtain ⟨n, h1, h2⟩ := h
  exact ⟨n, h1, h2.trans e⟩
theorem Res.mod {cs : List Nat} {a x y : Nat} (ha : 0 < a) (h : Res cs a x) (g : Res cs a y) : Res cs a (x % y) := by
  have h1 := h.add (g.mul ((a - 1) * (x / y)))
  refine h1.of ?_
  have e : x = x % y + y * (x / y) := (Nat.mod_add_div x y).symm
  have e2 : (a - 1) * (x / y) * y + y * (x / y) = (x / y * y) * a := by
    obtain ⟨b, rfl⟩ : ∃ b, a = b + 1 := ⟨a - 1, by omega⟩
    rw [Nat.add_sub_cancel, Nat.mul_succ, Nat.mul_comm y, Nat.mul_assoc b, Nat.mul_comm b]
  have e3 : x + (a - 1) * (x / y) * y = x % y + (x / y * y) * a := by
    conv => lhs; rw [e]
    rw [Nat.add_assoc, Nat.add_comm (y * (x / y)), ← e2]
    have : (x % y + y * (x / y)) / y = x / y := by rw [← e]
    rw [this]
  rw [e3, Nat.add_mul_mod_self_right]
theorem Res.gcd {cs : List Nat} {a : Nat} (ha : 0 < a) (x y : Nat) : Res cs a x → Res cs a y → Res cs a (Nat.gcd x y) := by
  induction x, y using Nat.gcd.induction with
  | H0 y => intro _ h; rw [Nat.gcd_zero_left]; exact h
  | H1 x y _ ih =>
    intro h g
    rw [Nat.gcd_rec]
    exact ih (g.mod ha h) h
theorem Res.fold {cs : List Nat} {a : Nat} (ha : 0 < a) : ∀ (ds : List Nat) (g : Nat), (∀ c ∈ ds, Res cs a c) → Res cs a g → Res cs a (ds.foldl (fun g c => Nat.gcd c g) g)
  | [], g, _, h => h
  | c :: ds, g, hc, h => Res.fold ha ds (Nat.gcd c g) (fun d hd => hc d (List.mem_cons_of_mem _ hd)) (Res.gcd ha c g (hc c List.mem_cons_self) h)
theorem Res.gcds {cs : List Nat} {a : Nat} (ha : 0 < a) {n : Nat} (h : gcds cs ∣ n) : Res cs a n := by
  have h1 : Res cs a (GP.gcds cs) := Res.fold ha cs 0 (fun c hc => ⟨c, .self hc, rfl⟩) .zero
  obtain ⟨k, e⟩ := h
  have h2 := h1.mul k
  rw [Nat.mul_comm] at h2
  rwa [e]
theorem Mk.dvd {cs : List Nat} {n g : Nat} (h : Mk cs n) (hg : ∀ c ∈ cs, g ∣ c) : g ∣ n := by
  induction h with
  | zero => exact Nat.dvd_zero _
  | add hc _ ih => exact Nat.dvd_add ih (hg _ hc)
theorem Mk.addk {cs : List Nat} {a n : Nat} (ha : a ∈ cs) (h : Mk cs n) : ∀ k, Mk cs (n + k * a)
  | 0 => by rw [Nat.zero_mul]; exact h
  | k + 1 => by rw [Nat.succ_mul, ← Nat.add_assoc]; exact .add ha (h.addk ha k)
/-- whether a sum is made, by the least sums -/
theorem ls_made {cs : List Nat} {a m : Nat} {f : List (Option Nat)} (L : Ls cs a m f) (hac : a ∈ cs) {n : Nat} {y : Option Nat} (hy : f[n % a]? = some y) : mkB cs n = (match y with | none => false | some v => decide (v ≤ n)) := by
  cases y with
  | none =>
    cases h : mkB cs n with
    | false => rfl
    | true =>
      obtain ⟨w, h1, _⟩ := L.least n (mkB_iff.mp h)
      rw [hy] at h1
      cases h1
  | some v =>
    show _ = decide (v ≤ n)
    rw [Bool.eq_iff_iff, mkB_iff, decide_eq_true_iff]
    constructor
    · intro h
      obtain ⟨w, h1, h2⟩ := L.least n h
      rw [hy] at h1
      cases h1
      exact h2
    · intro h
      obtain ⟨h1, h2⟩ := L.made _ v hy
      have hd : a ∣ n - v := Nat.dvd_of_mod_eq_zero (Nat.sub_mod_eq_zero_of_mod_eq h1.symm)
      obtain ⟨k, e⟩ := hd
      have := h2.addk hac k
      rwa [Nat.mul_comm, ← e, Nat.add_sub_cancel' h] at this
theorem ls_far {cs : List Nat} {a m : Nat} {f : List (Option Nat)} (L : Ls cs a m f) (hac : a ∈ cs) (ha : 0 < a) {n : Nat} (hn : m * a ≤ n) : mkB cs n = decide (gcds cs ∣ n) := by
  rw [Bool.eq_iff_iff, decide_eq_true_iff]
  constructor
  · intro h
    exact (mkB_iff.mp h).dvd fun c hc => dvd_gcds.mp (Nat.dvd_refl _) c hc
  · intro h
    obtain ⟨k, h1, h2⟩ := Res.gcds (cs := cs) ha h
    obtain ⟨w, h3, h4⟩ := L.least k h1
    rw [h2] at h3
    rw [ls_made L hac h3]
    exact decide_eq_true (Nat.le_trans (L.top _ w h3) hn)
theorem is_made_ok {cs : List Nat} {a m : Nat} {f : List (Option Nat)} (L : Ls cs a m f) (hac : a ∈ cs) (ha : 0 < a) (n : Nat) : f_is_made [.lst (fD f), dI n] = .rt (.bl (mkB cs n)) := by
  obtain ⟨y, hy⟩ : ∃ y, f[n % a]? = some y := ⟨_, List.getElem?_eq_getElem (by rw [L.len]; exact Nat.mod_lt _ ha)⟩
  have e1 : gMod (dI n) (dI a) = .ok (dI (n % a)) := by rw [gMod_s (by omega)]; rfl
  have e2 := fD_ix hy
  have e3 := ls_made L hac hy
  have hl : ((fD f).length : Int) = (a : Int) := by rw [fD_len, L.len]
  refine (run_s (by rfl)).trans ?_
  simp [b_is_made, startE, hl, e1, e2]
  rw [e3]
  cases y with
  | none => simp [oD, isNon]; exact endF_rt rfl
  | some v =>
    simp [oD, isNon]
    exact endF_rt rfl
end GP

/-! GPj: purses without a common divisor, and their gaps. -/
namespace GP
open GM
structure Pl (cs : List Nat) : Prop where
  ne : cs ≠ []
  len : cs.length ≤ 5
  asc : cs.Pairwise (· < ·)
  pos : ∀ c ∈ cs, 1 ≤ c
  top : ∀ c ∈ cs, c ≤ 15
  one : gcds cs = 1
theorem Pl.pu {cs : List Nat} (d : Pl cs) : Pu cs := ⟨d.ne, Nat.le_trans d.len (by omega), d.asc, d.pos, fun c hc => Nat.le_trans (d.top c hc) (by omega)⟩
def mostP (ns : List Int) (i : Nat) : Nat := match mixN (cellI ns i) 9949 3 with
  | 0 => 7
  | 1 => 10
  | _ => 14
theorem mostP_b (ns : List Int) (i : Nat) : 0 < mostP ns i ∧ mostP ns i ≤ 14 := by
  unfold mostP
  split <;> omega
theorem one_more {a : Nat} {tl : List Nat} : gcds (setN ((a :: tl) ++ [a + 1])) = 1 := by
  have h1 : gcds (setN ((a :: tl) ++ [a + 1])) ∣ a := dvd_gcds.mp (Nat.dvd_refl _) a (mem_setN.mpr (by simp))
  have h2 : gcds (setN ((a :: tl) ++ [a + 1])) ∣ a + 1 := dvd_gcds.mp (Nat.dvd_refl _) (a + 1) (mem_setN.mpr (by simp))
  exact Nat.dvd_one.mp ((Nat.dvd_add_right h1).mp h2)
theorem plain_ok {ns : List Int} (hn : ns.length ≤ 63) (i : Nat) : ∃ cs, Pl cs ∧ f_l_plain [.scr ns, dI i] = .rt (.tup (dN cs)) := by
  have hm := mixN_lt (v := cellI ns i) (p := 9949) (k := 3) (by omega)
  have e0 := cell_ok ns i
  have e1 : f_l_mix [.int (cellI ns i), .int 9949, .int 3] = .rt (dI (mixN (cellI ns i) 9949 3)) := mix_ok (p := 9949) (k := 3) _ (by omega) (by omega)
  have e2 : gIx (.lst [.int 7, .int 10, .int 14]) (dI (mixN (cellI ns i) 9949 3)) = .ok (dI (mostP ns i)) := by
    unfold mostP
    generalize mixN (cellI ns i) 9949 3 = k at hm
    match k, hm with
    | 0, _ => rfl
    | 1, _ => rfl
    | 2, _ => rfl
  have hb := mostP_b ns i
  have d := coins_dr ns (i := i) hb.1
  have e3 := coins_ok ns (i := i) (m := mostP ns i) hb.1
  generalize setN (coinsN ns i (mostP ns i)) = cs at d e3
  have hn' : ¬ (63 < (ns.length : Int)) := by omega
  have p := d.pu (by omega)
  have e4 := ldiv_lst p
  obtain ⟨a, tl, hcs⟩ := List.exists_cons_of_ne_nil d.ne
  have ha := d.pos a (hcs ▸ List.mem_cons_self)
  have ha2 := d.top a (hcs ▸ List.mem_cons_self)
  have hg : 0 < gcds cs := Nat.pos_of_dvd_of_pos (dvd_gcds.mp (Nat.dvd_refl _) a (hcs ▸ List.mem_cons_self)) ha
  have hl := d.len
  by_cases h1 : 1 < gcds cs
  · have h1' : (1 : Int) < (gcds cs : Int) := by omega
    have e5 : gIx (.lst (dN cs)) (.int 0) = .ok (dI a) := by
      show ofO (atI (dN cs) ((0 : Nat) : Int)) = _
      rw [atI_nat (v := dI a) (by rw [hcs]; rfl)]; rfl
    have e6 : gCatL (.lst (dN cs)) (.lst [.int ((a : Int) + 1)]) = .ok (dN (cs ++ [a + 1])) := by
      show (if _ ≤ lim then Rs.ok _ else .bad) = _
      rw [if_pos (le_lim (by rw [dN_len]; show _ + 1 ≤ _; omega))]
      unfold dN
      rw [List.map_append]
      rfl
    have e7 := setSort_ok (cs := cs ++ [a + 1]) (by rw [List.length_append]; show _ + 1 < _; omega)
    have pl : Pl (setN (cs ++ [a + 1])) := {
      ne := setN_ne (by simp)
      len := by
        have := setN_len (cs ++ [a + 1])
        rw [List.length_append, List.length_singleton] at this
        omega
      asc := setN_asc _
      pos := fun c hc => (List.mem_append.mp (mem_setN.mp hc)).elim (d.pos c) fun z => by rw [List.mem_singleton.mp z]; omega
      top := fun c hc => (List.mem_append.mp (mem_setN.mp hc)).elim (fun z => Nat.le_trans (d.top c z) (by omega)) fun z => by rw [List.mem_singleton.mp z]; omega
      one := by rw [hcs]; exact one_more }
    refine ⟨_, pl, (run_s (by rfl)).trans ?_⟩
    simp [b_l_plain, startE, e0, e1, e2, e3, hn', e4, h1', e5, nCat, e6, nOp1, e7, bTuple]
    exact endF_rt (by show noLs _ = true; exact noLs_dN _)
  · have h1' : ¬ (1 : Int) < (gcds cs : Int) := by omega
    have pl : Pl cs := ⟨d.ne, by omega, d.asc, d.pos, fun c hc => Nat.le_trans (d.top c hc) (by omega), by omega⟩
    refine ⟨_, pl, (run_s (by rfl)).trans ?_⟩
    simp [b_l_plain, startE, e0, e1, e2, e3, hn', e4, h1', bTuple]
    exact endF_rt (by show noLs _ = true; exact noLs_dN _)
/-! ### the least sums of such a purse are all numbers -/
theorem all_some {cs : List Nat} {a m : Nat} {f : List (Option Nat)} (L : Ls cs a m f) (ha : 0 < a) (h1 : gcds cs = 1) : ∃ vs : List Nat, f = vs.map some ∧ vs.length = a := by
  have : ∀ x ∈ f, ∃ v, x = some v := by
    intro x hx
    obtain ⟨r, hr, e⟩ := List.mem_iff_getElem.mp hx
    rw [L.len] at hr
    obtain ⟨k, h2, h3⟩ := Res.gcds (cs := cs) (a := a) (n := r) ha (by rw [h1]; exact Nat.one_dvd _)
    obtain ⟨w, h4, _⟩ := L.least k h2
    rw [h3, Nat.mod_eq_of_lt hr] at h4
    refine ⟨w, ?_⟩
    rw [List.getElem?_eq_getElem (by rw [L.len]; exact hr), e] at h4
    exact Option.some.inj h4
  refine ⟨f.map (Option.getD · 0), ?_, by rw [List.length_map, L.len]⟩
  rw [List.map_map]
  refine ((List.map_congr_left (g := id) fun x hx => ?_).trans (List.map_id _)).symm
  obtain ⟨v, rfl⟩ := this x hx
  rfl
theorem fD_some (vs : List Nat) : fD (vs.map some) = dN vs := by unfold fD dN; rw [List.map_map]; rfl
/-- the least sums, all numbers -/
structure Lv (cs : List Nat) (a m : Nat) (vs : List Nat) : Prop where
  len : vs.length = a
  mod : ∀ r v : Nat, vs[r]? = some v → v % a = r
  made : ∀ (n v : Nat), vs[n % a]? = some v → mkB cs n = decide (v ≤ n)
  top : ∀ v ∈ vs, v ≤ m * a
theorem lv_of {cs : List Nat} {a m : Nat} {vs : List Nat} (L : Ls cs a m (vs.map some)) (hac : a ∈ cs) : Lv cs a m vs where
  len := by rw [← L.len, List.length_map]
  mod := fun r v h => (L.made r v (by rw [List.getElem?_map, h]; rfl)).1
  made := fun n v h => ls_made L hac (y := some v) (by rw [List.getElem?_map, h]; rfl)
  top := fun v hv => by
    obtain ⟨r, hr, e⟩ := List.mem_iff_getElem.mp hv
    exact L.top r v (by rw [List.getElem?_map, List.getElem?_eq_getElem hr, e]; rfl)
/-- a purse whose gaps have an end: its first coin a, no coin beyond m -/
structure Pe (cs : List Nat) (a m : Nat) : Prop where
  pu : Pu cs
  one : gcds cs = 1
  hd : ∃ tl, cs = a :: tl
  top : ∀ c ∈ cs, c ≤ m
  le : m ≤ 400
theorem Pe.mem {cs : List Nat} {a m : Nat} (h : Pe cs a m) : a ∈ cs := by obtain ⟨tl, e⟩ := h.hd; exact e ▸ List.mem_cons_self
theorem Pe.a0 {cs : List Nat} {a m : Nat} (h : Pe cs a m) : 0 < a := h.pu.pos a h.mem
theorem Pe.am {cs : List Nat} {a m : Nat} (h : Pe cs a m) : a ≤ m := h.top a h.mem
theorem Pe.a4 {cs : List Nat} {a m : Nat} (h : Pe cs a m) : a ≤ 400 := Nat.le_trans h.am h.le
theorem Pe.mm {cs : List Nat} {a m : Nat} (h : Pe cs a m) : m * a ≤ 160000 := Nat.mul_le_mul h.le h.a4
theorem Pl.pe {cs : List Nat} (p : Pl cs) : ∃ a, Pe cs a 15 := by
  obtain ⟨a, tl, e⟩ := List.exists_cons_of_ne_nil p.ne
  exact ⟨a, p.pu, p.one, ⟨tl, e⟩, p.top, by omega⟩
theorem Pe.ix0 {cs : List Nat} {a m : Nat} (h : Pe cs a m) : gIx (.tup (dN cs)) (.int 0) = .ok (dI a) := by
  obtain ⟨tl, e⟩ := h.hd
  show ofO (atI (dN cs) ((0 : Nat) : Int)) = _
  rw [atI_nat (v := dI a) (by rw [e]; rfl)]; rfl
theorem least_all {cs : List Nat} {a m : Nat} (h : Pe cs a m) : ∃ vs, Lv cs a m vs ∧ Ls cs a m (vs.map some) ∧ f_least_sums [.tup (dN cs)] = .rn (dN vs) := by
  obtain ⟨f, L, e⟩ : ∃ f, Ls cs a m f ∧ f_least_sums [.tup (dN cs)] = .rn (fD f) := by
    obtain ⟨tl, e⟩ := h.hd
    rw [e]
    exact least_sums_ok (e ▸ h.pu) (e ▸ h.top) h.le
  obtain ⟨vs, rfl, _⟩ := all_some L h.a0 h.one
  exact ⟨vs, lv_of L h.mem, L, by rw [e, fD_some]⟩
theorem look_ok {cs : List Nat} (p : Pu cs) (h1 : gcds cs = 1) : f_look_ends [.tup (dN cs)] = .rt .non := by
  have e := divisor_ok p
  rw [h1] at e
  refine (run_s (by rfl)).trans ?_
  simp [b_look_ends, startE, e]
theorem look_bad {cs : List Nat} (p : Pu cs) (h1 : 1 < gcds cs) : f_look_ends [.tup (dN cs)] = .ex "Endless" := by
  have e := divisor_ok p
  have h : (1 : Int) < (gcds cs : Int) := by omega
  refine (run_s (by rfl)).trans ?_
  simp [b_look_ends, startE, e, h]
end GP

/-! GPk: the gaps. -/
namespace GP
open GM
theorem szK {r v a k : Nat} (ha : 0 < a) (e : v = r + k * a) : rngSz (r : Int) (v : Int) (a : Int) = k := by
  unfold rngSz
  rw [if_pos (by omega)]
  cases k with
  | zero => rw [if_neg (by omega)]
  | succ k =>
    have h0 : 0 < (k + 1) * a := Nat.mul_pos (Nat.succ_pos _) ha
    rw [if_pos (by omega), show (v : Int) - (r : Int) - 1 = (((k * a + (a - 1)) : Nat) : Int) by rw [Nat.succ_mul] at e; omega]
    show (((k * a + (a - 1)) / a : Nat) + 1 : Int).toNat = k + 1
    rw [Nat.mul_comm, Nat.mul_add_div ha, Nat.div_eq_of_lt (by omega)]
    omega
theorem mem_cls {n r a k : Nat} (hr : r < a) : n ∈ clsN r a k ↔ n % a = r ∧ n < r + k * a := by
  unfold clsN
  rw [List.mem_map]
  constructor
  · rintro ⟨j, hj, e⟩
    have hj := List.mem_range.mp hj
    have : (j + 1) * a ≤ k * a := Nat.mul_le_mul_right a hj
    rw [Nat.succ_mul] at this
    refine ⟨by rw [← e, Nat.add_mul_mod_self_right]; exact Nat.mod_eq_of_lt hr, by omega⟩
  · rintro ⟨h1, h2⟩
    have e := Nat.div_add_mod n a
    rw [h1, Nat.mul_comm] at e
    refine ⟨n / a, List.mem_range.mpr ?_, by omega⟩
    have : (n / a) * a < k * a := by omega
    exact Nat.lt_of_mul_lt_mul_right this
theorem cls_nodup {r a k : Nat} (ha : 0 < a) : (clsN r a k).Nodup := by
  unfold clsN
  refine List.Pairwise.map _ (fun x y h => ?_) (List.nodup_range (n := k))
  intro e
  exact h (Nat.eq_of_mul_eq_mul_right ha (by omega))
/-- the gaps, rest by rest -/
def catG (a : Nat) : Nat → List Nat → List Nat
  | _, [] => []
  | r, v :: t => clsN r a (rngSz (r : Int) (v : Int) (a : Int)) ++ catG a (r + 1) t
theorem cat_ok {a : Nat} (ha : 0 < a) : ∀ (t : List Nat) (r : Nat), r + t.length ≤ a → (∀ i v : Nat, t[i]? = some v → v % a = r + i) →
    (catG a r t).Nodup ∧ (∀ n, n ∈ catG a r t ↔ r ≤ n % a ∧ ∃ v, t[n % a - r]? = some v ∧ n < v)
  | [], r, _, _ => ⟨.nil, fun n => ⟨fun h => (by cases h), fun h => (by obtain ⟨_, v, h, _⟩ := h; simp at h)⟩⟩
  | v :: t, r, hl, hv => by
    rw [List.length_cons] at hl
    obtain ⟨h1, h2⟩ := cat_ok ha t (r + 1) (by omega) fun i w h => by
      have := hv (i + 1) w (by simpa using h)
      omega
    have hv0 := hv 0 v rfl
    have hr : r < a := by omega
    have ek := Nat.div_add_mod v a
    rw [hv0, Nat.add_zero, Nat.mul_comm] at ek
    have hk := szK (r := r) (v := v) (k := v / a) ha (by omega)
    have hc : ∀ n, n ∈ clsN r a (rngSz (r : Int) (v : Int) (a : Int)) ↔ n % a = r ∧ n < v := fun n => by rw [hk, mem_cls hr, show r + v / a * a = v by omega]
    refine ⟨List.nodup_append.mpr ⟨cls_nodup ha, h1, fun x hx y hy e => ?_⟩, fun n => ?_⟩
    · subst e
      have := ((hc x).mp hx).1
      have := ((h2 x).mp hy).1
      omega
    · show n ∈ _ ++ _ ↔ _
      rw [List.mem_append, hc, h2]
      constructor
      · rintro (⟨e1, e2⟩ | ⟨e1, w, e2, e3⟩)
        · exact ⟨by omega, v, by rw [e1, Nat.sub_self]; rfl, e2⟩
        · exact ⟨by omega, w, by rw [show n % a - r = (n % a - (r + 1)) + 1 by omega]; simpa using e2, e3⟩
      · rintro ⟨e1, w, e2, e3⟩
        by_cases e : n % a = r
        · rw [e, Nat.sub_self] at e2
          have : v = w := by simpa using e2
          exact .inl ⟨e, by omega⟩
        · rw [show n % a - r = (n % a - (r + 1)) + 1 by omega] at e2
          exact .inr ⟨by omega, w, by simpa using e2, e3⟩
theorem cat_len {a : Nat} (ha : 0 < a) : ∀ (t : List Nat) (r : Nat), (∀ i v : Nat, t[i]? = some v → v % a = r + i) → (catG a r t).length = (t.map (· / a)).sum
  | [], _, _ => rfl
  | v :: t, r, hv => by
    have ih := cat_len ha t (r + 1) fun i w h => by
      have := hv (i + 1) w (by simpa using h)
      omega
    have hv0 := hv 0 v rfl
    have ek := Nat.div_add_mod v a
    rw [hv0, Nat.add_zero, Nat.mul_comm] at ek
    have hk := szK (r := r) (v := v) (k := v / a) ha (by omega)
    show (clsN r a (rngSz (r : Int) (v : Int) (a : Int)) ++ catG a (r + 1) t).length = _
    rw [List.length_append, ih, hk]
    unfold clsN
    rw [List.length_map, List.length_range, List.map_cons, List.sum_cons]
/-- sorted -/
def sortN (cs : List Nat) : List Nat := (sortI (zs cs)).map Int.toNat
theorem sortN_zs (cs : List Nat) : zs (sortN cs) = sortI (zs cs) := by
  unfold sortN zs
  rw [List.map_map]
  refine (List.map_congr_left (g := id) fun x hx => ?_).trans (List.map_id _)
  obtain ⟨d, _, e⟩ := zs_mem.mp (mem_sortI.mp hx)
  show ((x.toNat : Nat) : Int) = x
  omega
theorem mem_sortN {c : Nat} {cs : List Nat} : c ∈ sortN cs ↔ c ∈ cs := by
  unfold sortN
  constructor
  · intro h
    obtain ⟨x, hx, e⟩ := List.mem_map.mp h
    obtain ⟨d, hd, e2⟩ := zs_mem.mp (mem_sortI.mp hx)
    have : d = c := by omega
    exact this ▸ hd
  · intro h
    exact List.mem_map.mpr ⟨(c : Int), mem_sortI.mpr (zs_mem.mpr ⟨c, h, rfl⟩), by omega⟩
theorem sortN_asc {cs : List Nat} (h : cs.Nodup) : (sortN cs).Pairwise (· < ·) := by
  have h1 := sortI_asc (xs := zs cs) (by unfold zs; exact List.Pairwise.map _ (fun x y z e => z (Int.ofNat.inj e)) h)
  rw [← sortN_zs] at h1
  unfold zs at h1
  rw [List.pairwise_map] at h1
  exact h1.imp fun z => by omega
theorem sortN_len (cs : List Nat) : (sortN cs).length = cs.length := by
  unfold sortN
  rw [List.length_map, sortI_len]
  unfold zs
  rw [List.length_map]
theorem sort_ok {cs : List Nat} (h : cs.length ≤ lim) : lstOnly bSort (.lst (dN cs)) = .ok (dN (sortN cs)) := by
  show bSort (.lst (dN cs)) = _
  rw [dN_ints, dN_ints, sortN_zs]
  show (match asInts (dInts (zs cs)) with
    | some ns => (if ns.length ≤ lim then Rs.ok (dInts (sortI ns)) else .bad)
    | none => .bad) = _
  rw [asInts_ints]
  exact if_pos (by unfold zs; rw [List.length_map]; exact h)
/-- the gaps -/
noncomputable def gapsN (cs : List Nat) (b : Nat) : List Nat := (List.range b).filter fun n => !mkB cs n
theorem gapsN_asc (cs : List Nat) (b : Nat) : (gapsN cs b).Pairwise (· < ·) := List.Pairwise.sublist List.filter_sublist List.pairwise_lt_range
theorem mem_gaps {cs : List Nat} {b n : Nat} : n ∈ gapsN cs b ↔ n < b ∧ mkB cs n = false := by
  unfold gapsN
  rw [List.mem_filter, List.mem_range]
  cases mkB cs n <;> simp
theorem lv_get {cs : List Nat} {a m : Nat} {vs : List Nat} (L : Lv cs a m vs) (ha : 0 < a) (n : Nat) : ∃ v, vs[n % a]? = some v := ⟨_, List.getElem?_eq_getElem (by rw [L.len]; exact Nat.mod_lt _ ha)⟩
theorem lv_mod {cs : List Nat} {a m : Nat} {vs : List Nat} (L : Lv cs a m vs) : ∀ i v : Nat, vs[i]? = some v → v % a = 0 + i := fun i v h => by rw [L.mod i v h, Nat.zero_add]
theorem gaps_is {cs : List Nat} {a m : Nat} {vs : List Nat} (L : Lv cs a m vs) (ha : 0 < a) {b : Nat} (hb : m * a ≤ b) : sortN (catG a 0 vs) = gapsN cs b := by
  obtain ⟨h1, h2⟩ := cat_ok ha vs 0 (by rw [L.len]; omega) (lv_mod L)
  refine asc_ext (sortN_asc h1) (gapsN_asc cs b) fun n => ?_
  rw [mem_sortN, h2, mem_gaps]
  obtain ⟨v, hv⟩ := lv_get L ha n
  have hm := L.made n v hv
  have ht := L.top v (List.mem_of_getElem? hv)
  rw [hm]
  constructor
  · rintro ⟨_, w, e1, e2⟩
    rw [Nat.sub_zero, hv] at e1
    cases e1
    exact ⟨by omega, decide_eq_false (by omega)⟩
  · rintro ⟨_, e⟩
    have := of_decide_eq_false e
    exact ⟨Nat.zero_le _, v, by rw [Nat.sub_zero]; exact hv, by omega⟩
theorem gaps_len {cs : List Nat} {a m : Nat} {vs : List Nat} (L : Lv cs a m vs) (ha : 0 < a) {b : Nat} (hb : m * a ≤ b) : (gapsN cs b).length = (vs.map (· / a)).sum := by
  rw [← gaps_is L ha hb, sortN_len]
  exact cat_len ha vs 0 (lv_mod L)
theorem sum_le {a b : Nat} : ∀ {t : List Nat}, (∀ v ∈ t, v ≤ b) → (t.map (· / a)).sum ≤ b * t.length
  | [], _ => Nat.zero_le _
  | v :: t, h => by
    have h1 := h v List.mem_cons_self
    have h2 := sum_le (a := a) (t := t) fun w hw => h w (List.mem_cons_of_mem _ hw)
    have h3 := Nat.div_le_self v a
    rw [List.map_cons, List.sum_cons, List.length_cons, Nat.mul_succ]
    omega
theorem max_ok {vs : List Nat} (ne : vs ≠ []) : ∃ M ∈ vs, (∀ v ∈ vs, v ≤ M) ∧ lstO bMax (.lst (dN vs)) = .ok (dI M) := by
  have hx : ∀ (t : List Nat), t ≠ [] → ∃ M ∈ t, ∀ v ∈ t, v ≤ M := by
    intro t
    induction t with
    | nil => intro h; exact absurd rfl h
    | cons v t ih =>
      intro _
      by_cases h : t = []
      · subst h
        exact ⟨v, List.mem_cons_self, fun w hw => by rw [List.mem_singleton.mp hw]; exact Nat.le_refl _⟩
      · obtain ⟨M, h1, h2⟩ := ih h
        by_cases e : v ≤ M
        · exact ⟨M, List.mem_cons_of_mem _ h1, fun w hw => (List.mem_cons.mp hw).elim (fun z => z ▸ e) (h2 w)⟩
        · exact ⟨v, List.mem_cons_self, fun w hw => (List.mem_cons.mp hw).elim (fun z => by rw [z]; exact Nat.le_refl _) fun z => by have := h2 w z; omega⟩
  obtain ⟨M, h1, h2⟩ := hx vs ne
  refine ⟨M, h1, h2, ?_⟩
  have hz := zs_mem (x := (M : Int)).mpr ⟨_, h1, rfl⟩
  show bMax (.lst (dN vs)) = _
  rw [dN_ints]
  show (match asInts (dInts (zs vs)) with
    | some ns => (if ns.isEmpty then Rs.bad else .ok (D.int (maxI ns)))
    | none => .bad) = _
  rw [asInts_ints]
  show (if (zs vs).isEmpty = true then Rs.bad else .ok (D.int (maxI (zs vs)))) = _
  rw [if_neg (by intro z; rw [List.isEmpty_iff.mp z] at hz; cases hz), maxI_is hz fun x hx => by
    obtain ⟨d, hd, ed⟩ := zs_mem.mp hx
    have := h2 d hd
    omega]
theorem capX {n : Nat} {k : So} (h : n ≤ 9000000) : (if n ≤ lim then k else .bad) = k := if_pos (by unfold lim; omega)
theorem gaps_turn {P : List Nat} {a : Nat} {tl : List Nat} (hP : P = a :: tl) (ha : 0 < a) (ha2 : a ≤ 1000) {r v : Nat} (hr : r ≤ 100000) (hv : v ≤ 1000000) (acc : List Nat) (hacc : acc.length + rngSz (r : Int) (v : Int) (a : Int) ≤ 9000000) :
    o_gaps_of0 [.imm (.tup (dN P)), .own (dN acc), .imm (dI r), .imm (dI v)] = .nx [.imm (.tup (dN P)), .own (dN (acc ++ clsN r a (rngSz (r : Int) (v : Int) (a : Int)))), .imm (dI r), .imm (dI v)] := by
  have e1 : gIx (.tup (dN P)) (.int 0) = .ok (dI a) := by
    show ofO (atI (dN P) ((0 : Nat) : Int)) = _
    rw [atI_nat (v := dI a) (by rw [hP]; rfl)]; rfl
  have e2 : iR3 (vI 2) (vI 3) (op2 gIx (vI 0) (cst (.int 0))) [.imm (.tup (dN P)), .own (dN acc), .imm (dI r), .imm (dI v)] = .ok (dN (clsN r a (rngSz (r : Int) (v : Int) (a : Int)))) := by
    rw [iR3_i (i := (r : Int)) (j := (v : Int)) (k := (a : Int)) rfl rfl (by simp [e1]) (by omega) (by omega) (by omega) (by omega), rngC_nat]
  have e3 : nRng (iR3 (vI 2) (vI 3) (op2 gIx (vI 0) (cst (.int 0)))) [.imm (.tup (dN P)), .own (dN acc), .imm (dI r), .imm (dI v)] = .ok (dN (clsN r a (rngSz (r : Int) (v : Int) (a : Int)))) := by
    unfold nRng
    rw [e2, Rs.bind_ok]
    refine if_pos ?_
    unfold clsN
    rw [dN_len, List.length_map, List.length_range]
    unfold lim
    omega
  rw [o_gaps_of0_s]
  unfold sExt
  simp only [List.getElem?_cons_succ, List.getElem?_cons_zero, e3, liftS_ok]
  rw [capX (by rw [dN_len, dN_len]; unfold clsN; rw [List.length_map, List.length_range]; exact hacc)]
  unfold dN
  rw [List.map_append]
  rfl
theorem gaps_loop {P : List Nat} {a : Nat} {tl : List Nat} (hP : P = a :: tl) (ha : 0 < a) (ha2 : a ≤ 1000) : ∀ (t : List Nat) (r : Nat) (acc : List Nat) (x y : SV), (∀ v ∈ t, v ≤ 1000000) → r + t.length ≤ 100000 → acc.length + (catG a r t).length ≤ 9000000 →
    ∃ x' y', forGo (gTp [2, 3]) o_gaps_of0 (enumD r (dN t)) [.imm (.tup (dN P)), .own (dN acc), x, y] = .nx [.imm (.tup (dN P)), .own (dN (acc ++ catG a r t)), x', y']
  | [], r, acc, x, y, _, _, _ => ⟨x, y, by show So.nx _ = _; show _ = So.nx [_, .own (dN (acc ++ [])), x, y]; rw [List.append_nil]⟩
  | v :: t, r, acc, x, y, hv, hr, hl => by
    have hcl : (catG a r (v :: t)).length = rngSz (r : Int) (v : Int) (a : Int) + (catG a (r + 1) t).length := by
      show (clsN r a (rngSz (r : Int) (v : Int) (a : Int)) ++ catG a (r + 1) t).length = _
      rw [List.length_append]
      unfold clsN
      rw [List.length_map, List.length_range]
    rw [List.length_cons] at hr
    have ht := gaps_turn hP ha ha2 (r := r) (v := v) (by omega) (hv v List.mem_cons_self) acc (by omega)
    obtain ⟨x', y', ih⟩ := gaps_loop hP ha ha2 t (r + 1) (acc ++ clsN r a (rngSz (r : Int) (v : Int) (a : Int))) (.imm (dI r)) (.imm (dI v)) (fun w hw => hv w (List.mem_cons_of_mem _ hw)) (by omega) (by
      rw [List.length_append]
      unfold clsN
      rw [List.length_map, List.length_range]
      omega)
    refine ⟨x', y', ?_⟩
    have e : acc ++ catG a r (v :: t) = acc ++ clsN r a (rngSz (r : Int) (v : Int) (a : Int)) ++ catG a (r + 1) t := by rw [List.append_assoc]; rfl
    rw [e]
    exact (for_nx rfl ht).trans ih
theorem gaps_ok {cs : List Nat} {a m : Nat} (p : Pe cs a m) {b : Nat} (hb : m * a ≤ b) : f_gaps_of [.tup (dN cs)] = .rn (dN (gapsN cs b)) := by
  obtain ⟨tl, hcs⟩ := p.hd
  have ha := p.a0
  have ha2 := p.a4
  have ham := p.am
  have hm4 := p.le
  have hmm := p.mm
  obtain ⟨vs, L, _, e⟩ := least_all p
  have hlen := cat_len ha vs 0 (lv_mod L)
  have hs : (vs.map (· / a)).sum ≤ m * vs.length := by
    have : ∀ t : List Nat, (∀ v ∈ t, v ≤ m * a) → (t.map (· / a)).sum ≤ m * t.length := by
      intro t
      induction t with
      | nil => intro _; exact Nat.zero_le _
      | cons v t ih =>
        intro h
        have h1 : v / a ≤ m := Nat.div_le_of_le_mul (by rw [Nat.mul_comm]; exact h v List.mem_cons_self)
        have h2 := ih fun w hw => h w (List.mem_cons_of_mem _ hw)
        rw [List.map_cons, List.sum_cons, List.length_cons, Nat.mul_succ]
        omega
    exact this vs L.top
  rw [L.len] at hs
  obtain ⟨x', y', h⟩ := gaps_loop hcs ha (by omega) vs 0 [] .no .no (fun v hv => by have := L.top v hv; omega) (by rw [L.len]; omega) (by rw [hlen]; show 0 + _ ≤ _; omega)
  rw [List.nil_append] at h
  have e2 := sort_ok (cs := catG a 0 vs) (by rw [hlen]; unfold lim; omega)
  rw [gaps_is L ha hb] at e2
  refine (run_s (by rfl)).trans ?_
  have st : startE 4 [.tup (dN cs)] = [.imm (.tup (dN cs)), .no, .no, .no] := rfl
  rw [st]
  unfold b_gaps_of
  have s1 : sDrop (eCall f_look_ends (aCons (vI 0) aNil)) [.imm (.tup (dN cs)), .no, .no, .no] = .nx [.imm (.tup (dN cs)), .no, .no, .no] := by
    simp only [sDrop_s, eCall_s, aCons_s, aNil_s, vI_s, List.getElem?_cons_zero, Rs.bind_ok, look_ok p.pu p.one, roE_rt, liftS_ok]
  rw [sSeq_s, s1]
  show endF true (sSeq _ _ _) = _
  rw [sSeq_s, sSetN_s, nLst_s, aNil_s, Rs.bind_ok, show ([] : List D).length = 0 from rfl, capC_ok (Nat.zero_le 100000), liftS_ok]
  show endF true (sSeq _ _ [.imm (.tup (dN cs)), .own [], .no, .no]) = _
  have s3 : iEnumA (toE (nCall f_least_sums (aCons (vI 0) aNil))) [.imm (.tup (dN cs)), .own [], .no, .no] = .ok (enumD 0 (dN vs)) := by
    unfold iEnumA
    simp only [toE_s, nCall_s, aCons_s, aNil_s, vI_s, List.getElem?_cons_zero, Rs.bind_ok, e, roN_rn, Rs.map_ok]
    rfl
  have h : forGo (gTp [2, 3]) o_gaps_of0 (enumD 0 (dN vs)) [.imm (.tup (dN cs)), .own [], .no, .no] = _ := h
  rw [sSeq_s, sFor_s, s3, liftS_ok, h]
  show endF true (sRetN _ _) = _
  have s5 : nOp1 (lstOnly bSort) (vO 1) [.imm (.tup (dN cs)), .own (dN (catG a 0 vs)), x', y'] = .ok (dN (gapsN cs b)) := by
    unfold nOp1
    simp only [vO_s, List.getElem?_cons_succ, List.getElem?_cons_zero, Rs.bind_ok, e2]
  rw [sRetN_s, s5, liftS_ok]
  exact endF_rn (noLs_dN _)
theorem great_ok {cs : List Nat} {a m : Nat} (p : Pe cs a m) {vs : List Nat} (e : f_least_sums [.tup (dN cs)] = .rn (dN vs)) {M : Nat} (hM : lstO bMax (.lst (dN vs)) = .ok (dI M)) :
    f_greatest_gap [.tup (dN cs)] = .rt (if M < a then .non else dI (M - a)) := by
  have e1 := p.ix0
  refine (run_s (by rfl)).trans ?_
  by_cases h : M < a
  · have h' : (M : Int) - (a : Int) < 0 := by omega
    simp [b_greatest_gap, startE, look_ok p.pu p.one, e, hM, e1, h', h]
    exact endF_rt rfl
  · have h' : ¬ (M : Int) - (a : Int) < 0 := by omega
    have h2 : D.int ((M : Int) - (a : Int)) = dI (M - a) := by show D.int _ = D.int _; congr 1; omega
    simp [b_greatest_gap, startE, look_ok p.pu p.one, e, hM, e1, h', h]
    rw [h2]
    exact endF_rt rfl
/-- the greatest gap -/
theorem last_gap {cs : List Nat} {a m : Nat} {vs : List Nat} (L : Lv cs a m vs) (ha : 0 < a) {b M : Nat} (hb : m * a ≤ b) (hM : M ∈ vs) (hmax : ∀ v ∈ vs, v ≤ M) :
    (M < a → gapsN cs b = []) ∧ (a ≤ M → (M - a) ∈ gapsN cs b ∧ ∀ n ∈ gapsN cs b, n ≤ M - a) := by
  have low : ∀ n ∈ gapsN cs b, a ≤ M ∧ n ≤ M - a := by
    intro n hn
    obtain ⟨v, hv⟩ := lv_get L ha n
    have h1 := (mem_gaps.mp hn).2
    rw [L.made n v hv] at h1
    have h1 := of_decide_eq_false h1
    have h2 := L.mod _ v hv
    have h3 := hmax v (List.mem_of_getElem? hv)
    have e1 := Nat.div_add_mod n a
    have e2 := Nat.div_add_mod v a
    rw [h2] at e2
    have : n / a < v / a := by
      have : a * (n / a) < a * (v / a) := by omega
      exact Nat.lt_of_mul_lt_mul_left this
    have h4 : a * (n / a + 1) ≤ a * (v / a) := Nat.mul_le_mul_left a this
    rw [Nat.mul_succ] at h4
    omega
  refine ⟨fun h => List.eq_nil_iff_forall_not_mem.mpr fun n hn => by have := (low n hn).1; omega, fun h => ⟨?_, fun n hn => (low n hn).2⟩⟩
  have ht := L.top M hM
  obtain ⟨r, hr, e⟩ := List.mem_iff_getElem.mp hM
  have hr2 : vs[r]? = some M := by rw [List.getElem?_eq_getElem hr, e]
  have hmod := L.mod r M hr2
  have hmod2 : (M - a) % a = r := by rw [← hmod]; exact (Nat.mod_eq_sub_mod h).symm
  rw [mem_gaps, L.made (M - a) M (by rw [hmod2]; exact hr2)]
  exact ⟨by omega, decide_eq_false (by omega)⟩
end GP

/-! GPl: even purses: gaps counted. -/
namespace GP
open GM
theorem range_rev (F : Nat) : (List.range (F + 1)).map (F - ·) = (List.range (F + 1)).reverse := by
  refine List.ext_getElem (by rw [List.length_map, List.length_reverse]) fun i h1 h2 => ?_
  rw [List.length_map, List.length_range] at h1
  rw [List.getElem_map, List.getElem_range, List.getElem_reverse, List.getElem_range, List.length_range]
  omega
theorem cnt_rev (g : Nat → Bool) (F : Nat) : ((List.range (F + 1)).filter fun n => g (F - n)).length = ((List.range (F + 1)).filter g).length := by
  have h : ((List.range (F + 1)).map (F - ·)).filter g = ((List.range (F + 1)).filter (g ∘ (F - ·))).map (F - ·) := List.filter_map
  have h2 := congrArg List.length h
  rw [range_rev, List.filter_reverse, List.length_reverse, List.length_map] at h2
  exact h2.symm
theorem pair_cnt (g h : Nat → Bool) : ∀ l : List Nat, (∀ n ∈ l, g n = true ∨ h n = true) → l.length ≤ (l.filter g).length + (l.filter h).length ∧ ((l.filter g).length + (l.filter h).length = l.length ↔ ∀ n ∈ l, g n ≠ h n)
  | [], _ => ⟨Nat.le_refl _, ⟨fun _ n hn => (by cases hn), fun _ => rfl⟩⟩
  | x :: r, hx => by
    obtain ⟨i1, i2⟩ := pair_cnt g h r fun n hn => hx n (List.mem_cons_of_mem _ hn)
    have hx0 := hx x List.mem_cons_self
    rw [List.filter_cons, List.filter_cons]
    cases hg : g x with
    | true =>
      cases hh : h x with
      | true =>
        simp only [if_true, List.length_cons]
        refine ⟨by omega, ⟨fun e => by omega, fun e => absurd (e x List.mem_cons_self) (by rw [hg, hh]; simp)⟩⟩
      | false =>
        simp only [if_true, Bool.false_eq_true, if_false, List.length_cons]
        refine ⟨by omega, ⟨fun e n hn => ?_, fun e => ?_⟩⟩
        · rcases List.mem_cons.mp hn with z | z
          · rw [z, hg, hh]; simp
          · exact i2.mp (by omega) n z
        · have := i2.mpr fun n hn => e n (List.mem_cons_of_mem _ hn)
          omega
    | false =>
      cases hh : h x with
      | true =>
        simp only [if_true, Bool.false_eq_true, if_false, List.length_cons]
        refine ⟨by omega, ⟨fun e n hn => ?_, fun e => ?_⟩⟩
        · rcases List.mem_cons.mp hn with z | z
          · rw [z, hg, hh]; simp
          · exact i2.mp (by omega) n z
        · have := i2.mpr fun n hn => e n (List.mem_cons_of_mem _ hn)
          omega
      | false => rw [hg, hh] at hx0; simp at hx0
/-- as many gaps as half of what is up to the greatest one, just if the purse is even -/
theorem even_cnt {cs : List Nat} {F : Nat} (hF : mkB cs F = false) :
    F + 1 ≤ 2 * (gapsN cs (F + 1)).length ∧ (2 * (gapsN cs (F + 1)).length = F + 1 ↔ ∀ n ∈ List.range (F + 1), mkB cs n ≠ mkB cs (F - n)) := by
  have hp := pair_cnt (fun n => !mkB cs n) (fun n => !mkB cs (F - n)) (List.range (F + 1)) fun n hn => by
    have hn := List.mem_range.mp hn
    cases h1 : mkB cs n with
    | false => exact .inl rfl
    | true =>
      cases h2 : mkB cs (F - n) with
      | false => exact .inr rfl
      | true =>
        have := (mkB_iff.mp h1).plus (mkB_iff.mp h2)
        rw [show n + (F - n) = F by omega] at this
        rw [mkB_iff.mpr this] at hF
        cases hF
  have hr := cnt_rev (fun n => !mkB cs n) F
  rw [List.length_range, hr] at hp
  have e : ((List.range (F + 1)).filter fun n => !mkB cs n).length = (gapsN cs (F + 1)).length := rfl
  rw [e] at hp
  refine ⟨by omega, ⟨fun h n hn => ?_, fun h => ?_⟩⟩
  · have := hp.2.mp (by omega) n hn
    intro z
    exact this (by rw [z])
  · have := hp.2.mpr fun n hn z => h n hn (by simpa using z)
    omega
theorem gapsN_any {cs : List Nat} {a m : Nat} {vs : List Nat} (L : Lv cs a m vs) (ha : 0 < a) {b b' : Nat} (h : m * a ≤ b) (h' : m * a ≤ b') : gapsN cs b = gapsN cs b' := (gaps_is L ha h).symm.trans (gaps_is L ha h')
end GP

/-! GPm: steps of a body, one by one; the greatest gap by cases. -/
namespace GP
open GM
theorem q_set {i : Nat} {e : Ee} {b : Es} {r : Env} (d : D) (h : e r = .ok d) : sSeq (sSet i e) b r = b (r.set i (.imm d)) := by rw [sSeq_s, sSet_s, h, liftS_ok]
theorem q_setN {i : Nat} {e : En} {b : Es} {r : Env} (d : List D) (h : e r = .ok d) : sSeq (sSetN i e) b r = b (r.set i (.own d)) := by rw [sSeq_s, sSetN_s, h, liftS_ok]
theorem q_drop {e : Ee} {b : Es} {r : Env} (d : D) (h : e r = .ok d) : sSeq (sDrop e) b r = b r := by rw [sSeq_s, sDrop_s, h, liftS_ok]
theorem q_dropX {e : Ee} {b : Es} {r : Env} (c : String) (h : e r = .ex c) : sSeq (sDrop e) b r = .ex c r := by rw [sSeq_s, sDrop_s, h, liftS_ex]
theorem q_setX {i : Nat} {e : Ee} {b : Es} {r : Env} (c : String) (h : e r = .ex c) : sSeq (sSet i e) b r = .ex c r := by rw [sSeq_s, sSet_s, h, liftS_ex]
theorem q_setNX {i : Nat} {e : En} {b : Es} {r : Env} (c : String) (h : e r = .ex c) : sSeq (sSetN i e) b r = .ex c r := by rw [sSeq_s, sSetN_s, h, liftS_ex]
theorem q_no {t : Et} {a b : Es} {r : Env} (h : t r = .ok false) : sSeq (sIf t a sNx) b r = b r := by rw [sSeq_s, sIf_s, h, liftS_ok, if_neg Bool.false_ne_true, sNx_s]
theorem q_yes {t : Et} {a a' b : Es} {r : Env} (h : t r = .ok true) : sSeq (sIf t a a') b r = sSeq a b r := by rw [sSeq_s, sIf_s, h, liftS_ok, if_pos rfl, sSeq_s]
theorem q_else {t : Et} {a a' b : Es} {r : Env} (h : t r = .ok false) : sSeq (sIf t a a') b r = sSeq a' b r := by rw [sSeq_s, sIf_s, h, liftS_ok, if_neg Bool.false_ne_true, sSeq_s]
theorem q_for {src : En} {g : Tg} {o b : Es} {r q : Env} (ds : List D) (h : src r = .ok ds) (h2 : forGo g o ds r = .nx q) : sSeq (sFor src g o) b r = b q := by rw [sSeq_s, sFor_s, h, liftS_ok, h2]
theorem q_forR {src : En} {g : Tg} {o b : Es} {r : Env} {d : D} (ds : List D) (h : src r = .ok ds) (h2 : forGo g o ds r = .rt d) : sSeq (sFor src g o) b r = .rt d := by rw [sSeq_s, sFor_s, h, liftS_ok, h2]
theorem q_wh {t : Et} {o b : Es} {r q : Env} (n : Nat) (h : whGo t o n r = .nx q) (hn : n ≤ fuel) : sSeq (sWh fuel t o) b r = b q := by rw [sSeq_s, sWh_s, whGo_fuel h (by simp) hn]
theorem q_retS {e : Ee} {b : Es} {r : Env} (d : D) (h : e r = .ok d) : sSeq (sRet e) b r = .rt d := by rw [sSeq_s, sRet_s, h, liftS_ok]
theorem q_retNS {e : En} {b : Es} {r : Env} (d : List D) (h : e r = .ok d) : sSeq (sRetN e) b r = .rn d := by rw [sSeq_s, sRetN_s, h, liftS_ok]
theorem q_ret {e : Ee} {r : Env} (d : D) (h : e r = .ok d) : sRet e r = .rt d := by rw [sRet_s, h, liftS_ok]
theorem q_retN {e : En} {r : Env} (d : List D) (h : e r = .ok d) : sRetN e r = .rn d := by rw [sRetN_s, h, liftS_ok]
theorem wh_go {t : Et} {o : Es} {k : Nat} {r q : Env} (h : t r = .ok true) (h2 : o r = .nx q) : whGo t o (k + 1) r = whGo t o k q := by
  conv => lhs; unfold whGo
  rw [h, liftS_ok, if_pos rfl, h2]
theorem wh_end {t : Et} {o : Es} {k : Nat} {r : Env} (h : t r = .ok false) : whGo t o (k + 1) r = .nx r := by
  conv => lhs; unfold whGo
  rw [h, liftS_ok, if_neg Bool.false_ne_true]
/-- a def's run: its body's -/
theorem run_rt {n np : Nat} {b : Es} {ds : List D} {d : D} (h : ds.length = np) (h2 : b (startE n ds) = .rt d) (h3 : noL d = true) : runF true n np b ds = .rt d := by rw [run_s h, h2, endF_rt h3]
theorem run_rn {n np : Nat} {b : Es} {ds : List D} {d : List D} (h : ds.length = np) (h2 : b (startE n ds) = .rn d) (h3 : noLs d = true) : runF true n np b ds = .rn d := by rw [run_s h, h2, endF_rn h3]
theorem run_ex {n np : Nat} {b : Es} {ds : List D} {c : String} {q : Env} (h : ds.length = np) (h2 : b (startE n ds) = .ex c q) : runF true n np b ds = .ex c := by rw [run_s h, h2, endF_ex]
theorem run_nx {n np : Nat} {b : Es} {ds : List D} {q : Env} (h : ds.length = np) (h2 : b (startE n ds) = .nx q) : runF true n np b ds = .rt .non := by rw [run_s h, h2, endF_nx]
theorem sub_ok {F c : Nat} (h : c ≤ F) : gSub (dI F) (dI c) = .ok (dI (F - c)) := by
  show Rs.ok (D.int ((F : Int) - (c : Int))) = _
  rw [show (F : Int) - (c : Int) = ((F - c : Nat) : Int) by omega]
theorem eq_bb (u v : Bool) : gEq (.bl u) (.bl v) = .ok (.bl (u == v)) := rfl
theorem ne_bb (u v : Bool) : gNe (.bl u) (.bl v) = .ok (.bl (!(u == v))) := rfl
theorem run0_rt {n np : Nat} {b : Es} {ds : List D} {d : D} (h : ds.length = np) (hn : noLs ds = true) (h2 : b (startE n ds) = .rt d) : runF false n np b ds = .rt d := by
  unfold runF
  rw [if_pos h, hn, Bool.or_true, if_pos rfl, h2]
  rfl
/-! ### the greatest gap -/
/-- no gaps, or F the greatest one -/
def Gap (cs : List Nat) : Option Nat → Prop
  | none => ∀ n, mkB cs n = true
  | some F => mkB cs F = false ∧ ∀ n, F < n → mkB cs n = true
def oI : Option Nat → D
  | none => .non
  | some F => dI F
theorem gap_nil {cs : List Nat} {b : Nat} (g : Gap cs none) : gapsN cs b = [] := List.filter_eq_nil_iff.mpr fun n _ => by rw [g n]; simp
theorem gap_cut {cs : List Nat} {F b : Nat} (g : Gap cs (some F)) (hb : F < b) : gapsN cs b = gapsN cs (F + 1) := asc_ext (gapsN_asc _ _) (gapsN_asc _ _) fun n => by
  rw [mem_gaps, mem_gaps]
  refine ⟨fun ⟨_, h⟩ => ⟨?_, h⟩, fun ⟨_, h⟩ => ⟨by omega, h⟩⟩
  rcases Nat.lt_or_ge F n with z | z
  · rw [g.2 n z] at h; cases h
  · omega
theorem gap_last {cs : List Nat} {F : Nat} (g : Gap cs (some F)) : gapsN cs (F + 1) = gapsN cs F ++ [F] := by
  unfold gapsN
  rw [List.range_succ, List.filter_append]
  simp [g.1]
theorem great_cases {cs : List Nat} {a m : Nat} (p : Pe cs a m) : ∃ vs M o, Lv cs a m vs ∧ Ls cs a m (vs.map some) ∧ f_least_sums [.tup (dN cs)] = .rn (dN vs) ∧ lstO bMax (.lst (dN vs)) = .ok (dI M) ∧ M ≤ m * a ∧
    f_greatest_gap [.tup (dN cs)] = .rt (oI o) ∧ Gap cs o ∧ (o = none ↔ M < a) ∧ ∀ F, o = some F → F + a = M := by
  obtain ⟨vs, L, Lw, e⟩ := least_all p
  have ha := p.a0
  have hvne : vs ≠ [] := fun z => by have := L.len; rw [z] at this; simp at this; omega
  obtain ⟨M, hM, hmax, emax⟩ := max_ok hvne
  have eg := great_ok p e emax
  obtain ⟨h1, h2⟩ := last_gap L ha (b := m * a) (Nat.le_refl _) hM hmax
  have hb : ∀ n, mkB cs n = false → n ∈ gapsN cs (m * a) := fun n h => by
    obtain ⟨v, hv⟩ := lv_get L ha n
    have h' := h
    rw [L.made n v hv] at h'
    have := of_decide_eq_false h'
    have := L.top v (List.mem_of_getElem? hv)
    exact mem_gaps.mpr ⟨by omega, h⟩
  by_cases hlt : M < a
  · refine ⟨vs, M, none, L, Lw, e, emax, L.top M hM, by rw [eg, if_pos hlt]; rfl, fun n => ?_, by simp [hlt], fun F z => by cases z⟩
    cases h : mkB cs n with
    | true => rfl
    | false => have := hb n h; rw [h1 hlt] at this; cases this
  · obtain ⟨g1, g2⟩ := h2 (by omega)
    refine ⟨vs, M, some (M - a), L, Lw, e, emax, L.top M hM, by rw [eg, if_neg hlt]; rfl, ⟨(mem_gaps.mp g1).2, fun n hn => ?_⟩, by simp [hlt], fun F z => by cases z; omega⟩
    cases h : mkB cs n with
    | true => rfl
    | false => have := g2 n (hb n h); omega
/-- whether a purse is even -/
noncomputable def evenB (cs : List Nat) : Option Nat → Bool
  | none => true
  | some F => (List.range (F + 1)).all fun n => mkB cs n != mkB cs (F - n)
theorem evenB_iff {cs : List Nat} {F : Nat} : evenB cs (some F) = true ↔ ∀ n ∈ List.range (F + 1), mkB cs n ≠ mkB cs (F - n) := by
  show (List.range (F + 1)).all _ = true ↔ _
  rw [List.all_eq_true]
  refine ⟨fun h n hn => by simpa using h n hn, fun h n hn => by simpa using h n hn⟩
/-- the numbers up to F that are made just as what they are less than F -/
noncomputable def likeN (cs : List Nat) : Option Nat → List Nat
  | none => []
  | some F => (List.range (F + 1)).filter fun n => mkB cs n == mkB cs (F - n)
theorem like_even (cs : List Nat) (o : Option Nat) : decide (likeN cs o = []) = evenB cs o := by
  cases o with
  | none => rfl
  | some F =>
    rw [Bool.eq_iff_iff, evenB_iff, decide_eq_true_iff]
    unfold likeN
    rw [List.filter_eq_nil_iff]
    simp
theorem gap_far {cs : List Nat} {a m l : Nat} (p : Pe cs a m) (hl : cs.getLast? = some l) {o : Option Nat} (g : Gap cs o) : Pe cs a l ∧ ∀ F, o = some F → F + a ≤ l * a := by
  have hlm := List.mem_of_getLast? hl
  have pL : Pe cs a l := ⟨p.pu, p.one, p.hd, fun c hc => by
    obtain ⟨k, el⟩ := List.getLast?_eq_some_iff.mp hl
    rw [el] at hc
    have hasc := p.pu.asc
    rw [el] at hasc
    rcases List.mem_append.mp hc with z | z
    · have := (List.pairwise_append.mp hasc).2.2 c z l (List.mem_singleton.mpr rfl); omega
    · rw [List.mem_singleton.mp z]; exact Nat.le_refl _, p.pu.top l hlm⟩
  refine ⟨pL, fun F z => ?_⟩
  obtain ⟨_, _, o', L', _, _, _, hM', _, g', hn', hs'⟩ := great_cases pL
  have gg : Gap cs (some F) := z ▸ g
  cases o' with
  | none => have := g' F; rw [gg.1] at this; cases this
  | some F' =>
    have := hs' F' rfl
    have g' : Gap cs (some F') := g'
    rcases Nat.lt_trichotomy F F' with h | h | h
    · have := gg.2 F' h; rw [g'.1] at this; cases this
    · omega
    · have := g'.2 F h; rw [gg.1] at this; cases this
theorem maxD_ok (xs : List Nat) (d : D) : gMaxD (.lst (dN xs)) d = if xs.isEmpty then .ok d else .ok (.int (maxI (zs xs))) := by
  rw [dN_ints]
  show (match asInts (dInts (zs xs)) with
    | some ns => (if ns.isEmpty then Rs.ok d else .ok (D.int (maxI ns)))
    | none => .bad) = _
  rw [asInts_ints]
  cases xs <;> rfl
/-- the list of the gaps of a table -/
theorem most_comp {cs : List Nat} {b : Nat} {r : Env} {i j : Nat} (hr : r[i]? = some (.imm (.lst (tabD cs b)))) (hij : j ≠ i) (hj : j < r.length) (hb : b ≤ 100000) : nComp (iR1 (op1 gLen (vI i))) (gNm j) [j] (tNot (tOf (op2 gIx (vI i) (vI j)))) (vI j) r = .ok (dN (gapsN cs b)) := by
  have hs : iR1 (op1 gLen (vI i)) r = .ok (dN (List.range b)) := by
    rw [iR1_i (j := (b : Int)) (by rw [op1_s, vI_s, hr]; show Rs.ok (D.int ((tabD cs b).length : Int)) = _; rw [tabD_len]) (in62 (by omega) (by omega)), show ((b : Int)).toNat = b by omega, List.range_eq_range']
    exact congrArg Rs.ok (rng_r' 0 b)
  refine comp_keep hs (by rw [List.length_range]; exact hb) fun c hc => ?_
  have e := tab_at (cs := cs) (n := b) (k := c) (List.mem_range.mp hc)
  have e1 : ((r.set j .no).set j (.imm (dI c)))[i]? = some (.imm (.lst (tabD cs b))) := by
    rw [List.getElem?_set_ne hij, List.getElem?_set_ne hij, hr]
  have e2 : ((r.set j .no).set j (.imm (dI c)))[j]? = some (.imm (dI c)) := by
    rw [List.getElem?_set, if_pos rfl, if_pos (by rw [List.length_set]; exact hj)]
  refine ⟨?_, fun _ => ?_⟩
  · rw [tNot_s, tOf_s, op2_s, vI_s, vI_s, e1, e2]
    simp [e]
  · rw [vI_s, e2]
def oM : Option Nat → D
  | none => .int (-1)
  | some F => dI F
theorem most_is {cs : List Nat} {b : Nat} {o : Option Nat} (g : Gap cs o) (hb : ∀ F, o = some F → F < b) : gMaxD (.lst (dN (gapsN cs b))) (.int (-1)) = .ok (oM o) := by
  rw [maxD_ok]
  cases o with
  | none => rw [gap_nil g]; rfl
  | some F =>
    have h := hb F rfl
    rw [gap_cut g h, gap_last g, if_neg (by simp)]
    show Rs.ok (D.int _) = Rs.ok (D.int _)
    rw [maxI_is (g := (F : Int)) (zs_mem.mpr ⟨F, List.mem_append_right _ (List.mem_singleton.mpr rfl), rfl⟩) fun x hx => by
      obtain ⟨d, hd, e⟩ := zs_mem.mp hx
      rcases List.mem_append.mp hd with z | z
      · have := (mem_gaps.mp z).1; omega
      · rw [List.mem_singleton.mp z] at e; omega]
end GP

/-! GPn: ends. -/
namespace GP
open GM
/-- the ends below b -/
noncomputable def endsN (cs : List Nat) (b : Nat) : List Nat := (gapsN cs b).filter fun g => cs.all fun c => mkB cs (g + c)
theorem mem_ends {cs : List Nat} {b n : Nat} : n ∈ endsN cs b ↔ n ∈ gapsN cs b ∧ ∀ c ∈ cs, mkB cs (n + c) = true := by
  unfold endsN
  rw [List.mem_filter, List.all_eq_true]
theorem ends_asc (cs : List Nat) (b : Nat) : (endsN cs b).Pairwise (· < ·) := (gapsN_asc cs b).sublist List.filter_sublist
theorem asc_nodup {l : List Nat} (h : l.Pairwise (· < ·)) : l.Nodup := h.imp fun z => by omega
theorem len_sub : ∀ {l m : List Nat}, l.Nodup → (∀ x ∈ l, x ∈ m) → l.length ≤ m.length
  | [], _, _, _ => Nat.zero_le _
  | x :: l, m, h, hs => by
    obtain ⟨h1, h2⟩ := List.nodup_cons.mp h
    have hx := hs x List.mem_cons_self
    have := len_sub (m := m.erase x) h2 fun y hy => by
      have hne : y ≠ x := fun z => h1 (z ▸ hy)
      exact (List.mem_erase_of_ne hne).mpr (hs y (List.mem_cons_of_mem _ hy))
    rw [List.length_erase_of_mem hx] at this
    have := List.length_pos_of_mem hx
    rw [List.length_cons]
    omega
theorem mk0 (cs : List Nat) : mkB cs 0 = true := mkB_iff.mpr .zero
/-- each gap comes to an end with a made sum -/
theorem to_end {cs : List Nat} {F : Nat} (hp : ∀ c ∈ cs, 1 ≤ c) (g : Gap cs (some F)) : ∀ (k n : Nat), F - n < k → mkB cs n = false → ∃ e, n ≤ e ∧ e ≤ F ∧ mkB cs e = false ∧ (∀ c ∈ cs, mkB cs (e + c) = true) ∧ mkB cs (e - n) = true
  | 0, n, h, _ => absurd h (Nat.not_lt_zero _)
  | k + 1, n, h, hn => by
    have hle : n ≤ F := by
      rcases Nat.lt_or_ge F n with z | z
      · rw [g.2 n z] at hn; cases hn
      · exact z
    by_cases hall : ∀ c ∈ cs, mkB cs (n + c) = true
    · exact ⟨n, Nat.le_refl _, hle, hn, hall, by rw [Nat.sub_self]; exact mk0 cs⟩
    · obtain ⟨c, hc⟩ := Classical.not_forall.mp hall
      obtain ⟨hc, hm⟩ := Classical.not_imp.mp hc
      have hm : mkB cs (n + c) = false := by simpa using hm
      have h1 := hp c hc
      have hle2 : n + c ≤ F := by
        rcases Nat.lt_or_ge F (n + c) with z | z
        · rw [g.2 _ z] at hm; cases hm
        · exact z
      obtain ⟨e, e1, e2, e3, e4, e5⟩ := to_end hp g k (n + c) (by omega) hm
      refine ⟨e, by omega, e2, e3, e4, ?_⟩
      have := (mkB_iff.mp e5).plus (.self hc)
      rw [show e - (n + c) + c = e - n by omega] at this
      exact mkB_iff.mpr this
theorem gap_end {cs : List Nat} {F b : Nat} (hp : ∀ c ∈ cs, 1 ≤ c) (g : Gap cs (some F)) (hb : F < b) : F ∈ endsN cs b :=
  mem_ends.mpr ⟨mem_gaps.mpr ⟨hb, g.1⟩, fun c hc => g.2 _ (by have := hp c hc; omega)⟩
theorem all_eq_len {l : List Nat} {F : Nat} (h : l.Nodup) (he : ∀ x ∈ l, x = F) : l.length ≤ 1 := by
  have := len_sub (m := [F]) h fun x hx => List.mem_singleton.mpr (he x hx)
  exact this
/-- even just if there is one end at most -/
theorem even_ends {cs : List Nat} {b : Nat} {o : Option Nat} (hp : ∀ c ∈ cs, 1 ≤ c) (g : Gap cs o) (hb : ∀ F, o = some F → F < b) : evenB cs o = decide ((endsN cs b).length ≤ 1) := by
  cases o with
  | none =>
    have : endsN cs b = [] := by unfold endsN; rw [gap_nil g]; rfl
    rw [this]; rfl
  | some F =>
    have hF := gap_end hp g (hb F rfl)
    rw [Bool.eq_iff_iff, evenB_iff, decide_eq_true_iff]
    constructor
    · intro h
      refine all_eq_len (F := F) (asc_nodup (ends_asc cs b)) fun e he => ?_
      obtain ⟨h1, h2⟩ := mem_ends.mp he
      have h1 := (mem_gaps.mp h1).2
      rcases Nat.lt_trichotomy e F with z | z | z
      · exfalso
        have h3 := h e (List.mem_range.mpr (by omega))
        have h4 : mkB cs (F - e) = true := by
          cases q : mkB cs (F - e) with
          | true => rfl
          | false => rw [h1, q] at h3; exact absurd rfl h3
        obtain ⟨c, hc, hcl, hm⟩ := (Mk.step (by omega : 0 < F - e)).mp (mkB_iff.mp h4)
        have := (mkB_iff.mp (h2 c hc)).plus hm
        rw [show e + c + (F - e - c) = F by omega] at this
        have q := g.1
        rw [mkB_iff.mpr this] at q
        cases q
      · exact z
      · have := g.2 e z; rw [h1] at this; cases this
    · intro h n hn
      have hn := List.mem_range.mp hn
      have only : ∀ e ∈ endsN cs b, e = F := fun e he => by
        match hl : endsN cs b, h with
        | [], _ => rw [hl] at he; cases he
        | [x], _ =>
          rw [hl] at he hF
          rw [List.mem_singleton.mp he, List.mem_singleton.mp hF]
      cases hm : mkB cs n with
      | false =>
        obtain ⟨e, e1, e2, e3, e4, e5⟩ := to_end hp g (F - n + 1) n (Nat.lt_succ_self _) hm
        have := only e (mem_ends.mpr ⟨mem_gaps.mpr ⟨by have := hb F rfl; omega, e3⟩, e4⟩)
        subst this
        rw [e5]
        exact fun z => by cases z
      | true =>
        intro z
        have := (mkB_iff.mp hm).plus (mkB_iff.mp z.symm)
        rw [show n + (F - n) = F by omega] at this
        have q := g.1
        rw [mkB_iff.mpr this] at q
        cases q
theorem flat_len (f : Nat → List Nat) (k : Nat) (h : ∀ x, (f x).length = k) : ∀ l : List Nat, (l.flatMap f).length = l.length * k
  | [] => by simp
  | x :: l => by rw [List.flatMap_cons, List.length_append, flat_len f k h l, h x, List.length_cons, Nat.succ_mul, Nat.add_comm]
/-- the made sums below F -/
noncomputable def madeN (cs : List Nat) : Option Nat → List Nat
  | none => []
  | some F => (List.range F).filter fun n => mkB cs n
theorem gaps_ends {cs : List Nat} {b : Nat} {o : Option Nat} (hp : ∀ c ∈ cs, 1 ≤ c) (g : Gap cs o) (hb : ∀ F, o = some F → F < b) : (gapsN cs b).length ≤ (endsN cs b).length * (madeN cs o).length := by
  cases o with
  | none => rw [gap_nil g]; exact Nat.zero_le _
  | some F =>
    rw [← flat_len (fun e => (madeN cs (some F)).map fun s => e - s) _ (fun e => List.length_map _)]
    refine len_sub (asc_nodup (gapsN_asc cs b)) fun n hn => ?_
    obtain ⟨_, hm⟩ := mem_gaps.mp hn
    obtain ⟨e, e1, e2, e3, e4, e5⟩ := to_end hp g (F - n + 1) n (Nat.lt_succ_self _) hm
    have h0 : n ≠ 0 := fun z => by rw [z, mk0] at hm; cases hm
    refine List.mem_flatMap.mpr ⟨e, mem_ends.mpr ⟨mem_gaps.mpr ⟨by have := hb F rfl; omega, e3⟩, e4⟩, List.mem_map.mpr ⟨e - n, List.mem_filter.mpr ⟨List.mem_range.mpr (by omega), e5⟩, by omega⟩⟩
theorem ends_turn {cs : List Nat} {a m : Nat} {vs : List Nat} (L : Ls cs a m (vs.map some)) (p : Pe cs a m) (s : SV) (g : Nat) (acc : List Nat) (hl : acc.length ≤ 9000000) (x : SV) :
    o_ends_of0 [.imm (.tup (dN cs)), s, .imm (.lst (dN vs)), .own (dN acc), .imm (dI g), x] = .nx [.imm (.tup (dN cs)), s, .imm (.lst (dN vs)), .own (dN (acc ++ (if cs.all fun c => mkB cs (g + c) then [g] else []))), .imm (dI g), x] := by
  have hc : nComp (iS (vI 0)) (gNm 5) [5] (tNot (tOf (eCall f_is_made (aCons (vI 2) (aCons (op2 gAdd (vI 4) (vI 5)) aNil))))) (vI 5) [.imm (.tup (dN cs)), s, .imm (.lst (dN vs)), .own (dN acc), .imm (dI g), x] = .ok (dN (cs.filter fun c => !mkB cs (g + c))) := by
    refine comp_keep rfl (by have := p.pu.len; omega) fun c hc => ⟨?_, fun _ => rfl⟩
    have e := is_made_ok L p.mem p.a0 (g + c)
    rw [fD_some] at e
    have e : f_is_made [.lst (dN vs), .int ((g : Int) + (c : Int))] = .rt (.bl (mkB cs (g + c))) := e
    simp [e]
  have h : (cs.filter fun c => !mkB cs (g + c)).isEmpty = cs.all fun c => mkB cs (g + c) := by
    rw [Bool.eq_iff_iff, List.isEmpty_iff, List.filter_eq_nil_iff, List.all_eq_true]
    simp
  have h2 : (dN (cs.filter fun c => !mkB cs (g + c))).isEmpty = cs.all fun c => mkB cs (g + c) := by
    rw [← h]; cases cs.filter fun c => !mkB cs (g + c) <;> rfl
  have ht : tNot (tOf (toE (nComp (iS (vI 0)) (gNm 5) [5] (tNot (tOf (eCall f_is_made (aCons (vI 2) (aCons (op2 gAdd (vI 4) (vI 5)) aNil))))) (vI 5)))) [.imm (.tup (dN cs)), s, .imm (.lst (dN vs)), .own (dN acc), .imm (dI g), x] = .ok (cs.all fun c => mkB cs (g + c)) := by
    rw [tNot_s, tOf_s, toE_s, hc, Rs.map_ok, Rs.bind_ok, truth_l, Rs.map_ok, h2, Bool.not_not]
  rw [o_ends_of0_s, sIf_s, ht, liftS_ok]
  cases hh : cs.all fun c => mkB cs (g + c) with
  | true =>
    rw [if_pos rfl, sApp_s]
    have e6 : (dN acc).length ≤ 9000000 := by rw [dN_len]; exact hl
    simp [capS_big e6]
    unfold dN
    simp
  | false => simp
theorem ends_loop {cs : List Nat} {a m : Nat} {vs : List Nat} (L : Ls cs a m (vs.map some)) (p : Pe cs a m) (s : SV) : ∀ (gs : List Nat) (acc : List Nat) (z x : SV), acc.length + gs.length ≤ 9000000 →
    ∃ z', forGo (gNm 4) o_ends_of0 (dN gs) [.imm (.tup (dN cs)), s, .imm (.lst (dN vs)), .own (dN acc), z, x] = .nx [.imm (.tup (dN cs)), s, .imm (.lst (dN vs)), .own (dN (acc ++ gs.filter fun g => cs.all fun c => mkB cs (g + c))), z', x]
  | [], acc, z, x, _ => ⟨z, by simp [dN, forGo]⟩
  | g :: gs, acc, z, x, h => by
    rw [List.length_cons] at h
    have ht := ends_turn L p s g acc (by omega) x
    obtain ⟨z', ih⟩ := ends_loop L p s gs (acc ++ (if cs.all fun c => mkB cs (g + c) then [g] else [])) (.imm (dI g)) x (by
      rw [List.length_append]
      split
      · show _ + 1 + _ ≤ _; omega
      · show _ + 0 + _ ≤ _; omega)
    refine ⟨z', (for_nx rfl ht).trans (ih.trans ?_)⟩
    rw [List.append_assoc]
    congr 5
    rw [List.filter_cons]
    split <;> rfl
theorem ends_ok {cs : List Nat} {a m : Nat} (p : Pe cs a m) {b : Nat} (hb : m * a ≤ b) (hb2 : b ≤ 1000000) : f_ends_of [.tup (dN cs)] = .rn (dN (endsN cs b)) := by
  obtain ⟨vs, L, Lw, e⟩ := least_all p
  have e2 := gaps_ok p hb
  have hl : (gapsN cs b).length ≤ b := by
    have := List.length_filter_le (fun n => !mkB cs n) (List.range b)
    rw [List.length_range] at this
    exact this
  obtain ⟨z', h⟩ := ends_loop Lw p (.imm (.lst (dN (gapsN cs b)))) (gapsN cs b) [] .no .no (by show 0 + _ ≤ _; omega)
  refine run_rn rfl (d := dN (endsN cs b)) ?_ (noLs_dN _)
  unfold b_ends_of
  refine (q_set (.lst (dN (gapsN cs b))) (by simp [startE, e2])).trans ?_
  refine (q_set (.lst (dN vs)) (by simp [startE, e])).trans ?_
  refine (q_setN [] (by simp)).trans ?_
  exact (q_for (dN (gapsN cs b)) rfl h).trans rfl
end GP

/-! GPo: paying: the fewest coins. -/
namespace GP
open GM
/-- k coins make n -/
inductive MkN (cs : List Nat) : Nat → Nat → Prop
  | zero : MkN cs 0 0
  | add {k n c : Nat} : c ∈ cs → MkN cs k n → MkN cs (k + 1) (n + c)
theorem MkN.mk {cs : List Nat} {k n : Nat} (h : MkN cs k n) : Mk cs n := by
  induction h with
  | zero => exact .zero
  | add hc _ ih => exact .add hc ih
theorem MkN.of {cs : List Nat} {n : Nat} (h : Mk cs n) : ∃ k, MkN cs k n := by
  induction h with
  | zero => exact ⟨0, .zero⟩
  | add hc _ ih => obtain ⟨k, h⟩ := ih; exact ⟨k + 1, .add hc h⟩
theorem MkN.le {cs : List Nat} (hp : ∀ c ∈ cs, 1 ≤ c) {k n : Nat} (h : MkN cs k n) : k ≤ n := by
  induction h with
  | zero => exact Nat.le_refl _
  | @add k n c hc _ ih => have := hp c hc; omega
theorem MkN.sub {cs ds : List Nat} {k n : Nat} (h : MkN cs k n) (s : ∀ c ∈ cs, c ∈ ds) : MkN ds k n := by
  induction h with
  | zero => exact .zero
  | add hc _ ih => exact .add (s _ hc) ih
theorem MkN.step {cs : List Nat} {k n : Nat} (h : MkN cs k n) (hn : 0 < n) : ∃ c ∈ cs, ∃ j, c ≤ n ∧ k = j + 1 ∧ MkN cs j (n - c) := by
  cases h with
  | zero => omega
  | @add j m c hc hm => exact ⟨c, hc, j, by omega, rfl, by rw [Nat.add_sub_cancel]; exact hm⟩
theorem MkN.back {cs : List Nat} {j n c : Nat} (hc : c ∈ cs) (hl : c ≤ n) (h : MkN cs j (n - c)) : MkN cs (j + 1) n := by
  have := MkN.add hc h
  rwa [Nat.sub_add_cancel hl] at this
def Few (cs : List Nat) (n : Nat) : Option Nat → Prop
  | none => ∀ k, ¬ MkN cs k n
  | some k => MkN cs k n ∧ ∀ j, MkN cs j n → k ≤ j
theorem least_nat {P : Nat → Prop} : ∀ (k : Nat), P k → ∃ m, P m ∧ ∀ j, P j → m ≤ j := by
  intro k
  induction k using Nat.strongRecOn with
  | ind k ih =>
    intro h
    by_cases z : ∃ j, j < k ∧ P j
    · obtain ⟨j, h1, h2⟩ := z
      exact ih j h1 h2
    · refine ⟨k, h, fun j hj => ?_⟩
      rcases Nat.lt_or_ge j k with w | w
      · exact absurd ⟨j, w, hj⟩ z
      · exact w
theorem few_ex (cs : List Nat) (n : Nat) : ∃ o, Few cs n o := by
  by_cases h : ∃ k, MkN cs k n
  · obtain ⟨k, h⟩ := h
    obtain ⟨m, h1, h2⟩ := least_nat (P := fun k => MkN cs k n) k h
    exact ⟨some m, h1, h2⟩
  · exact ⟨none, fun k z => h ⟨k, z⟩⟩
noncomputable def few (cs : List Nat) (n : Nat) : Option Nat := Classical.choose (few_ex cs n)
theorem few_spec (cs : List Nat) (n : Nat) : Few cs n (few cs n) := Classical.choose_spec (few_ex cs n)
theorem few_is {cs : List Nat} {n : Nat} {o : Option Nat} (h : Few cs n o) : few cs n = o := by
  have g := few_spec cs n
  cases e : few cs n with
  | none =>
    rw [e] at g
    cases o with
    | none => rfl
    | some k => exact absurd h.1 (g k)
  | some j =>
    rw [e] at g
    cases o with
    | none => exact absurd g.1 (h j)
    | some k => have h1 := h.2 j g.1; have h2 := g.2 k h.1; rw [Nat.le_antisymm h1 h2]
theorem few0 (cs : List Nat) : few cs 0 = some 0 := few_is ⟨.zero, fun _ _ => Nat.zero_le _⟩
theorem few_some {cs : List Nat} {n k : Nat} (h : few cs n = some k) : MkN cs k n ∧ ∀ j, MkN cs j n → k ≤ j := by have := few_spec cs n; rw [h] at this; exact this
theorem few_none {cs : List Nat} {n : Nat} (h : few cs n = none) : ∀ k, ¬ MkN cs k n := by have := few_spec cs n; rw [h] at this; exact this
theorem few_isSome {cs : List Nat} {n : Nat} : (few cs n).isSome = mkB cs n := by
  rw [Bool.eq_iff_iff, mkB_iff]
  cases h : few cs n with
  | none =>
    refine Iff.intro (fun z => by cases z) (fun z => ?_)
    obtain ⟨k, z⟩ := MkN.of z
    exact absurd z (few_none h k)
  | some k => exact Iff.intro (fun _ => (few_some h).1.mk) (fun _ => rfl)
/-- one coin less -/
theorem few_down {cs : List Nat} {n k : Nat} (hn : 0 < n) (h : few cs n = some k) : ∃ c ∈ cs, ∃ j, c ≤ n ∧ k = j + 1 ∧ few cs (n - c) = some j := by
  obtain ⟨h1, h2⟩ := few_some h
  obtain ⟨c, hc, j, hl, e, hm⟩ := h1.step hn
  refine ⟨c, hc, j, hl, e, few_is ⟨hm, fun i hi => ?_⟩⟩
  have := h2 _ (MkN.back hc hl hi)
  omega
theorem few_up {cs : List Nat} {n c j : Nat} (hc : c ∈ cs) (hl : c ≤ n) (h : few cs (n - c) = some j) : ∃ k, few cs n = some k ∧ k ≤ j + 1 := by
  have hm := MkN.back hc hl (few_some h).1
  cases e : few cs n with
  | none => exact absurd hm (few_none e _)
  | some k => exact ⟨k, rfl, (few_some e).2 _ hm⟩
theorem min_ok {vs : List Nat} (ne : vs ≠ []) : ∃ M ∈ vs, (∀ v ∈ vs, M ≤ v) ∧ minI (zs vs) = (M : Int) := by
  have hx : ∀ (t : List Nat), t ≠ [] → ∃ M ∈ t, (∀ v ∈ t, M ≤ v) ∧ minI (zs t) = (M : Int) := by
    intro t
    induction t with
    | nil => intro h; exact absurd rfl h
    | cons v t ih =>
      intro _
      cases t with
      | nil => exact ⟨v, List.mem_cons_self, fun w hw => by rw [List.mem_singleton.mp hw]; exact Nat.le_refl _, rfl⟩
      | cons u t =>
        obtain ⟨M, h1, h2, h3⟩ := ih (by simp)
        have e : minI (zs (v :: u :: t)) = if (v : Int) ≤ minI (zs (u :: t)) then (v : Int) else minI (zs (u :: t)) := rfl
        rw [h3] at e
        by_cases hv : v ≤ M
        · refine ⟨v, List.mem_cons_self, fun w hw => (List.mem_cons.mp hw).elim (fun z => by rw [z]; exact Nat.le_refl _) fun z => by have := h2 w z; omega, by rw [e, if_pos (by omega)]⟩
        · exact ⟨M, List.mem_cons_of_mem _ h1, fun w hw => (List.mem_cons.mp hw).elim (fun z => by omega) (h2 w), by rw [e, if_neg (by omega)]⟩
  exact hx vs ne
theorem bMin_ok {vs : List Nat} (ne : vs ≠ []) : lstO bMin (.lst (dN vs)) = .ok (.int (minI (zs vs))) := by
  show bMin (.lst (dN vs)) = _
  rw [dN_ints]
  show (match asInts (dInts (zs vs)) with
    | some ns => (if ns.isEmpty then Rs.bad else .ok (D.int (minI ns)))
    | none => .bad) = _
  rw [asInts_ints]
  show (if (zs vs).isEmpty = true then Rs.bad else .ok (D.int (minI (zs vs)))) = _
  rw [if_neg]
  intro z
  cases vs with
  | nil => exact ne rfl
  | cons _ _ => cases z
/-- the fewest coins with one of the sums below -/
noncomputable def belowN (cs : List Nat) (n : Nat) : List Nat := (cs.filter fun c => decide (c ≤ n) && (few cs (n - c)).isSome).map fun c => (few cs (n - c)).getD 0
theorem mem_below {cs : List Nat} {n j : Nat} : j ∈ belowN cs n ↔ ∃ c ∈ cs, c ≤ n ∧ few cs (n - c) = some j := by
  unfold belowN
  rw [List.mem_map]
  constructor
  · rintro ⟨c, hc, e⟩
    obtain ⟨h1, h2⟩ := List.mem_filter.mp hc
    obtain ⟨h3, h4⟩ := Bool.and_eq_true_iff.mp h2
    obtain ⟨k, hk⟩ := Option.isSome_iff_exists.mp h4
    rw [hk] at e
    exact ⟨c, h1, of_decide_eq_true h3, by rw [hk]; exact congrArg some e⟩
  · rintro ⟨c, hc, hl, e⟩
    exact ⟨c, List.mem_filter.mpr ⟨hc, by rw [e, decide_eq_true hl]; rfl⟩, by rw [e]; rfl⟩
theorem few_below {cs : List Nat} {n : Nat} (hn : 0 < n) : (belowN cs n = [] → few cs n = none) ∧ (belowN cs n ≠ [] → ∃ M : Nat, minI (zs (belowN cs n)) = (M : Int) ∧ few cs n = some (M + 1)) := by
  constructor
  · intro h
    cases e : few cs n with
    | none => rfl
    | some k =>
      obtain ⟨c, hc, j, hl, _, hj⟩ := few_down hn e
      have := mem_below.mpr ⟨c, hc, hl, hj⟩
      rw [h] at this
      cases this
  · intro h
    obtain ⟨M, h1, h2, h3⟩ := min_ok h
    refine ⟨M, h3, ?_⟩
    obtain ⟨c, hc, hl, hj⟩ := mem_below.mp h1
    obtain ⟨k, hk, hle⟩ := few_up hc hl hj
    obtain ⟨c', hc', j', hl', e', hj'⟩ := few_down hn hk
    have := h2 j' (mem_below.mpr ⟨c', hc', hl', hj'⟩)
    rw [hk]
    congr 1
    omega
noncomputable def rowsO (cs : List Nat) (n : Nat) : List (Option Nat) := (List.range n).map (few cs)
theorem rows_len (cs : List Nat) (n : Nat) : (rowsO cs n).length = n := by unfold rowsO; rw [List.length_map, List.length_range]
theorem rows_get {cs : List Nat} {n k : Nat} (h : k < n) : (rowsO cs n)[k]? = some (few cs k) := by unfold rowsO; rw [List.getElem?_map, List.getElem?_range h]; rfl
theorem rows_succ (cs : List Nat) (n : Nat) : rowsO cs (n + 1) = rowsO cs n ++ [few cs n] := by unfold rowsO; rw [List.range_succ, List.map_append]; rfl
theorem rows_ix {cs : List Nat} {n k : Nat} (h : k < n) : gIx (.lst (fD (rowsO cs n))) (dI k) = .ok (oD (few cs k)) := fD_ix (rows_get h)
theorem fD_app (a b : List (Option Nat)) : fD (a ++ b) = fD a ++ fD b := by unfold fD; rw [List.map_append]
theorem isNon_oD (o : Option Nat) : isNon (oD o) = o.isNone := by cases o <;> rfl
theorem look_paid_ok {cs : List Nat} (p : Pu cs) {n : Nat} (hn : n ≤ 400) : f_look_paid [.tup (dN cs), dI n] = .rt .non := by
  refine (run_s (by rfl)).trans ?_
  have e := within_ok (n : Int) 0 400
  have h : (0 : Int) ≤ (n : Int) ∧ (n : Int) ≤ 400 := by omega
  rw [decide_eq_true h] at e
  simp [b_look_paid, startE, checked_ok p, e]
end GP

/-! GPp: how many ways. -/
namespace GP
open GM
/-- how many ways to make n -/
def ways : List Nat → Nat → Nat
  | [], n => if n = 0 then 1 else 0
  | c :: r, n => ways r n + (if h : 1 ≤ c ∧ c ≤ n then ways (c :: r) (n - c) else 0)
termination_by l n => (l.length, n)
decreasing_by
  · exact Prod.Lex.left _ _ (Nat.lt_succ_self _)
  · exact Prod.Lex.right _ (by omega)
theorem ways_nil (n : Nat) : ways [] n = if n = 0 then 1 else 0 := by rw [ways]
theorem ways_cons (c : Nat) (r : List Nat) (n : Nat) : ways (c :: r) n = ways r n + (if 1 ≤ c ∧ c ≤ n then ways (c :: r) (n - c) else 0) := by
  rw [ways]
  by_cases h : 1 ≤ c ∧ c ≤ n
  · rw [dif_pos h, if_pos h]
  · rw [dif_neg h, if_neg h]
theorem ways_at {c : Nat} {r : List Nat} {n : Nat} (h1 : 1 ≤ c) (h2 : c ≤ n) : ways (c :: r) n = ways r n + ways (c :: r) (n - c) := by rw [ways_cons, if_pos ⟨h1, h2⟩]
theorem ways_low {c : Nat} {r : List Nat} {n : Nat} (h : n < c) : ways (c :: r) n = ways r n := by rw [ways_cons, if_neg (by omega), Nat.add_zero]
theorem ways_congr {c : Nat} {r s : List Nat} (h : ∀ n, ways r n = ways s n) (n : Nat) : ways (c :: r) n = ways (c :: s) n := by
  induction n using Nat.strongRecOn with
  | ind n ih =>
    rw [ways_cons c r, ways_cons c s, h n]
    split
    · rw [ih (n - c) (by omega)]
    · rfl
theorem ways_swap (c d : Nat) (r : List Nat) (n : Nat) : ways (c :: d :: r) n = ways (d :: c :: r) n := by
  induction n using Nat.strongRecOn with
  | ind n ih =>
    rw [ways_cons c (d :: r), ways_cons d (c :: r), ways_cons d r n, ways_cons c r n]
    by_cases hc : 1 ≤ c ∧ c ≤ n
    · by_cases hd : 1 ≤ d ∧ d ≤ n
      · rw [if_pos hd, if_pos hc, if_pos hc, if_pos hd, ih (n - c) (by omega), ways_cons d (c :: r) (n - c), ← ih (n - d) (by omega), ways_cons c (d :: r) (n - d)]
        by_cases h : c + d ≤ n
        · rw [if_pos (by omega), if_pos (by omega), ih (n - d - c) (by omega), show n - d - c = n - c - d by omega]
          omega
        · rw [if_neg (by omega), if_neg (by omega)]
          omega
      · rw [if_neg hd, if_pos hc, if_pos hc, if_neg hd, ih (n - c) (by omega), ways_cons d (c :: r) (n - c), if_neg (by omega)]
        omega
    · by_cases hd : 1 ≤ d ∧ d ≤ n
      · rw [if_pos hd, if_neg hc, if_neg hc, if_pos hd, ← ih (n - d) (by omega), ways_cons c (d :: r) (n - d), if_neg (by omega)]
        omega
      · rw [if_neg hd, if_neg hc, if_neg hc, if_neg hd]
theorem ways_perm {l m : List Nat} (h : l.Perm m) : ∀ n, ways l n = ways m n := by
  induction h with
  | nil => intro n; rfl
  | cons c _ ih => exact ways_congr ih
  | swap c d r => exact ways_swap d c r
  | trans _ _ i1 i2 => exact fun n => (i1 n).trans (i2 n)
theorem ways_mk : ∀ (cs : List Nat) (n : Nat), (∀ c ∈ cs, 1 ≤ c) → (0 < ways cs n ↔ Mk cs n)
  | [], n, _ => by
    rw [ways_nil]
    by_cases h : n = 0
    · subst h; exact ⟨fun _ => .zero, fun _ => Nat.zero_lt_one⟩
    · rw [if_neg h]; exact ⟨fun z => absurd z (Nat.lt_irrefl _), fun z => absurd z.of_nil h⟩
  | c :: r, n, hp => by
    have hr := fun m => ways_mk r m fun d hd => hp d (List.mem_cons_of_mem _ hd)
    have hc := hp c List.mem_cons_self
    induction n using Nat.strongRecOn with
    | ind n ih =>
      rw [ways_cons]
      constructor
      · intro h
        by_cases h1 : 0 < ways r n
        · exact ((hr n).mp h1).sub fun x hx => List.mem_cons_of_mem _ hx
        · by_cases h2 : 1 ≤ c ∧ c ≤ n
          · rw [if_pos h2] at h
            have := Mk.add List.mem_cons_self ((ih (n - c) (by omega)).mp (by omega))
            rwa [Nat.sub_add_cancel h2.2] at this
          · rw [if_neg h2] at h; omega
      · intro h
        have key : ∀ {m : Nat}, Mk (c :: r) m → Mk r m ∨ (c ≤ m ∧ Mk (c :: r) (m - c)) := by
          intro m h
          induction h with
          | zero => exact .inl .zero
          | @add m d hd hm ih =>
            rcases List.mem_cons.mp hd with e | hd'
            · subst e; exact .inr ⟨by omega, by rw [Nat.add_sub_cancel]; exact hm⟩
            · rcases ih with h | ⟨h1, h2⟩
              · exact .inl (.add hd' h)
              · refine .inr ⟨by omega, ?_⟩
                have := Mk.add hd h2
                rwa [show m - c + d = m + d - c by omega] at this
        rcases key h with h | ⟨h1, h2⟩
        · have := (hr n).mpr h; omega
        · rw [if_pos ⟨hc, h1⟩]
          have := (ih (n - c) (by omega)).mpr h2
          omega
/-! ### the table -/
def waysT (l : List Nat) (n : Nat) : List Nat := (List.range n).map (ways l)
theorem waysT_len (l : List Nat) (n : Nat) : (waysT l n).length = n := by unfold waysT; rw [List.length_map, List.length_range]
theorem waysT_get {l : List Nat} {n k : Nat} (h : k < n) : (waysT l n)[k]? = some (ways l k) := by unfold waysT; rw [List.getElem?_map, List.getElem?_range h]; rfl
/-- the table, in part renewed: below m the new one -/
def waysM (c : Nat) (l : List Nat) (n m : Nat) : List Nat := (List.range n).map fun k => if k < m then ways (c :: l) k else ways l k
theorem waysM_len (c : Nat) (l : List Nat) (n m : Nat) : (waysM c l n m).length = n := by unfold waysM; rw [List.length_map, List.length_range]
theorem waysM_get {c : Nat} {l : List Nat} {n m k : Nat} (h : k < n) : (waysM c l n m)[k]? = some (if k < m then ways (c :: l) k else ways l k) := by unfold waysM; rw [List.getElem?_map, List.getElem?_range h]; rfl
theorem waysM_0 (c : Nat) (l : List Nat) (n : Nat) : waysM c l n c = waysT l n := by
  unfold waysM waysT
  refine List.map_congr_left fun k _ => ?_
  split
  · exact ways_low (by assumption)
  · rfl
theorem waysM_end {c n m : Nat} (l : List Nat) (h : n ≤ m) : waysM c l n m = waysT (c :: l) n := by
  unfold waysM waysT
  refine List.map_congr_left fun k hk => ?_
  rw [if_pos (by have := List.mem_range.mp hk; omega)]
theorem waysM_set {c : Nat} {l : List Nat} {n m : Nat} (hc : 1 ≤ c) (hm : c ≤ m) (hn : m < n) : (waysM c l n m).set m (ways l m + ways (c :: l) (m - c)) = waysM c l n (m + 1) := by
  rw [← ways_at hc hm]
  refine List.ext_getElem? fun k => ?_
  by_cases hk : k < n
  · rw [waysM_get hk]
    by_cases e : k = m
    · subst e
      rw [List.getElem?_set, if_pos rfl, if_pos (by rw [waysM_len]; exact hk), if_pos (Nat.lt_succ_self _)]
    · rw [List.getElem?_set, if_neg (fun z => e z.symm), waysM_get hk]
      by_cases h : k < m
      · rw [if_pos h, if_pos (by omega)]
      · rw [if_neg h, if_neg (by omega)]
  · rw [List.getElem?_eq_none (by rw [List.length_set, waysM_len]; omega), List.getElem?_eq_none (by rw [waysM_len]; omega)]
theorem dN_ix {l : List Nat} {k v : Nat} (h : l[k]? = some v) : gIx (.lst (dN l)) (dI k) = .ok (dI v) := by
  show ofO (atI (dN l) (k : Int)) = _
  rw [atI_nat (v := dI v) (by rw [dN_get, h]; rfl)]
  rfl
theorem dN_set (l : List Nat) (i v : Nat) : (dN l).set i (dI v) = dN (l.set i v) := by unfold dN; rw [List.map_set]
theorem wut_turn {c : Nat} {l : List Nat} {n m : Nat} (hc : 1 ≤ c) (hm : c ≤ m) (hn : m < n) (t last x3 : SV) :
    o_ways_up_to0 [t, last, .own (dN (waysM c l n m)), .imm (dI m), .imm (dI c)] = .nx [t, last, .own (dN (waysM c l n (m + 1))), .imm (dI m), .imm (dI c)] := by
  have e1 := dN_ix (waysM_get (c := c) (l := l) (m := m) hn)
  rw [if_neg (Nat.lt_irrefl _)] at e1
  have e2 := dN_ix (waysM_get (c := c) (l := l) (n := n) (m := m) (k := m - c) (by omega))
  rw [if_pos (by omega), show dI (m - c) = D.int ((m : Int) - (c : Int)) by show D.int _ = _; congr 1; omega] at e2
  have e3 := dN_set (waysM c l n m) m (ways l m + ways (c :: l) (m - c))
  rw [waysM_set hc hm hn] at e3
  have e3 : (dN (waysM c l n m)).set m (.int ((ways l m : Int) + (ways (c :: l) (m - c) : Int))) = dN (waysM c l n (m + 1)) := e3
  have e4 : ixN (dN (waysM c l n m)).length (m : Int) = some m := ixN_nat (by rw [dN_len, waysM_len]; exact hn)
  rw [o_ways_up_to0_s]
  simp [sPut, e1, e2, e3, e4]
theorem wut_inner {c : Nat} {l : List Nat} {n : Nat} (hc : 1 ≤ c) (t last : SV) : ∀ (k m : Nat) (x3 : SV), c ≤ m → m + k ≤ n →
    ∃ y3, forGo (gNm 3) o_ways_up_to0 ((List.range' m k).map dI) [t, last, .own (dN (waysM c l n m)), x3, .imm (dI c)] = .nx [t, last, .own (dN (waysM c l n (m + k))), y3, .imm (dI c)]
  | 0, m, x3, _, _ => ⟨x3, rfl⟩
  | k + 1, m, x3, hm, hn => by
    have h := wut_turn (l := l) (n := n) hc hm (by omega) t last x3
    obtain ⟨y3, ih⟩ := wut_inner (c := c) (l := l) (n := n) hc t last k (m + 1) (.imm (dI m)) (by omega) (by omega)
    refine ⟨y3, ?_⟩
    rw [List.range'_succ, List.map_cons, for_nx rfl h, ih, show m + 1 + k = m + (k + 1) by omega]
theorem wut_body {c : Nat} {l : List Nat} {last : Nat} (hc : 1 ≤ c) (hc2 : c ≤ 100000) (hb : last ≤ 90000) (t x3 : SV) :
    ∃ y3, o_ways_up_to1 [t, .imm (dI last), .own (dN (waysT l (last + 1))), x3, .imm (dI c)] = .nx [t, .imm (dI last), .own (dN (waysT (c :: l) (last + 1))), y3, .imm (dI c)] := by
  have e : iR2 (vI 4) (op2 gAdd (vI 1) (cst (.int 1))) [t, .imm (dI last), .own (dN (waysT l (last + 1))), x3, .imm (dI c)] = .ok ((List.range' c (last + 1 - c)).map dI) := by
    have c1 := in62 (i := (c : Int)) (by omega) (by omega)
    have c2 := in62 (i := (last : Int) + 1) (by omega) (by omega)
    rw [iR2_i (i := (c : Int)) (j := (last : Int) + 1) rfl rfl ⟨c1.1, c1.2, c2.1, c2.2⟩, show ((last : Int) + 1 - (c : Int)).toNat = last + 1 - c by omega]
    exact congrArg Rs.ok (rng_r' c _)
  rw [o_ways_up_to1_s, sFor_s, e, liftS_ok, ← waysM_0 c]
  by_cases h : c ≤ last + 1
  · obtain ⟨y3, hi⟩ := wut_inner (l := l) (n := last + 1) hc t (.imm (dI last)) (last + 1 - c) c x3 (Nat.le_refl _) (by omega)
    refine ⟨y3, ?_⟩
    rw [hi, waysM_end l (by omega)]
  · refine ⟨x3, ?_⟩
    rw [show last + 1 - c = 0 by omega, waysM_end l (by omega)]
    rfl
theorem wut_loop {last : Nat} (hb : last ≤ 90000) (t : SV) : ∀ (cs l : List Nat) (x3 x4 : SV), (∀ c ∈ cs, 1 ≤ c ∧ c ≤ 100000) →
    ∃ y3 y4, forGo (gNm 4) o_ways_up_to1 (dN cs) [t, .imm (dI last), .own (dN (waysT l (last + 1))), x3, x4] = .nx [t, .imm (dI last), .own (dN (waysT (cs.reverse ++ l) (last + 1))), y3, y4]
  | [], l, x3, x4, _ => ⟨x3, x4, rfl⟩
  | c :: cs, l, x3, x4, h => by
    obtain ⟨h1, h2⟩ := h c List.mem_cons_self
    obtain ⟨y3, hb'⟩ := wut_body (l := l) h1 h2 hb t x3
    obtain ⟨z3, z4, ih⟩ := wut_loop hb t cs (c :: l) y3 (.imm (dI c)) fun d hd => h d (List.mem_cons_of_mem _ hd)
    refine ⟨z3, z4, (for_nx rfl hb').trans (ih.trans ?_)⟩
    rw [List.reverse_cons, List.append_assoc]
    rfl
theorem wut_ok {cs : List Nat} {t : D} (ht : itemsOf t = .ok (dN cs)) (hc : ∀ c ∈ cs, 1 ≤ c ∧ c ≤ 100000) {last : Nat} (hb : last ≤ 90000) : f_ways_up_to [t, dI last] = .rn (dN (waysT cs (last + 1))) := by
  obtain ⟨y3, y4, h⟩ := wut_loop hb (.imm t) cs [] .no .no hc
  have e0 : nComp (iR1 (vI 1)) (gNm 3) [3] tYes (cst (.int 0)) [.imm t, .imm (dI last), .no, .no, .no] = .ok (dN ((List.range last).map fun _ => 0)) := by
    have hs : iR1 (vI 1) [.imm t, .imm (dI last), .no, .no, .no] = .ok (dN (List.range last)) := by
      rw [iR1_i (j := (last : Int)) rfl (in62 (by omega) (by omega)), show ((last : Int)).toNat = last by omega, List.range_eq_range']
      exact congrArg Rs.ok (rng_r' 0 last)
    rw [comp_keep (keep := fun _ => true) (F := fun _ => dI 0) hs (by rw [List.length_range]; omega) fun c hc => ⟨rfl, fun _ => rfl⟩, List.filter_eq_self.mpr fun _ _ => rfl]
    unfold dN
    rw [List.map_map]
    rfl
  have e1 : waysT [] (last + 1) = 1 :: (List.range last).map fun _ => 0 := by
    unfold waysT
    rw [List.range_succ_eq_map, List.map_cons, List.map_map]
    refine congr (congrArg List.cons (ways_nil 0)) (List.map_congr_left fun k _ => ?_)
    exact (ways_nil (k + 1)).trans (if_neg (Nat.succ_ne_zero k))
  have e2 : gCatL (.lst [.int 1]) (.lst (dN ((List.range last).map fun _ => 0))) = .ok (dN (waysT [] (last + 1))) := by
    show (if _ ≤ lim then Rs.ok _ else .bad) = _
    rw [if_pos (le_lim (by rw [dN_len, List.length_map, List.length_range]; show 1 + _ ≤ _; omega)), e1]
    rfl
  have e3 : nCat (toE (nLst (aCons (cst (.int 1)) aNil))) (toE (nComp (iR1 (vI 1)) (gNm 3) [3] tYes (cst (.int 0)))) [.imm t, .imm (dI last), .no, .no, .no] = .ok (dN (waysT [] (last + 1))) := by
    unfold nCat
    rw [toE_s, toE_s, e0]
    simp [e2]
  refine run_rn rfl (d := dN (waysT cs (last + 1))) ?_ (noLs_dN _)
  unfold b_ways_up_to
  refine (q_setN _ e3).trans ?_
  refine (q_for (dN cs) (by simp [startE, ht]) h).trans ?_
  have e4 : waysT (cs.reverse ++ []) (last + 1) = waysT cs (last + 1) := by
    unfold waysT
    refine List.map_congr_left fun k _ => ?_
    rw [List.append_nil]
    exact ways_perm (List.reverse_perm cs) k
  rw [e4]
  rfl
theorem count_ok {cs : List Nat} (p : Pu cs) {n : Nat} (hn : n ≤ 400) : f_count_ways [.tup (dN cs), dI n] = .rt (dI (ways cs n)) := by
  have e1 := look_paid_ok p hn
  have e2 := wut_ok (cs := cs) (t := .tup (dN cs)) rfl (fun c hc => ⟨p.pos c hc, Nat.le_trans (p.top c hc) (by omega)⟩) (last := n) (by omega)
  have e3 := dN_ix (waysT_get (l := cs) (n := n + 1) (k := n) (Nat.lt_succ_self n))
  refine run_rt rfl ?_ rfl
  unfold b_count_ways
  refine (q_drop .non (by simp [startE, e1])).trans ?_
  refine q_ret _ ?_
  simp [startE, e2, e3]
end GP

/-! GPq: a way with the fewest coins. -/
namespace GP
open GM
def dot : List Nat → List Nat → Nat
  | w :: ws, c :: cs => w * c + dot ws cs
  | _, _ => 0
theorem dot_set : ∀ {ws cs : List Nat} {i w c : Nat}, ws[i]? = some w → cs[i]? = some c → dot (ws.set i (w + 1)) cs = dot ws cs + c
  | [], _, _, _, _, h, _ => by simp at h
  | _ :: _, [], _, _, _, _, h => by simp at h
  | x :: ws, y :: cs, 0, w, c, h1, h2 => by
    have h1 : x = w := by simpa using h1
    have h2 : y = c := by simpa using h2
    subst h1 h2
    show (x + 1) * y + dot ws cs = x * y + dot ws cs + y
    rw [Nat.succ_mul]
    omega
  | x :: ws, y :: cs, i + 1, w, c, h1, h2 => by
    have := dot_set (ws := ws) (cs := cs) (i := i) (w := w) (c := c) (by simpa using h1) (by simpa using h2)
    show x * y + dot (ws.set i (w + 1)) cs = x * y + dot ws cs + c
    rw [this, Nat.add_assoc]
theorem sum_set1 : ∀ {ws : List Nat} {i w : Nat}, ws[i]? = some w → (ws.set i (w + 1)).sum = ws.sum + 1
  | [], _, _, h => by simp at h
  | x :: ws, 0, w, h => by
    have h : x = w := by simpa using h
    subst h
    show ((x + 1) :: ws).sum = (x :: ws).sum + 1
    rw [List.sum_cons, List.sum_cons]
    omega
  | x :: ws, i + 1, w, h => by
    have := sum_set1 (ws := ws) (i := i) (w := w) (by simpa using h)
    show (x :: ws.set i (w + 1)).sum = (x :: ws).sum + 1
    rw [List.sum_cons, List.sum_cons]
    omega
theorem dot_zero : ∀ (n : Nat) (cs : List Nat), dot (List.replicate n 0) cs = 0
  | 0, _ => rfl
  | n + 1, [] => rfl
  | n + 1, c :: cs => by
    show 0 * c + dot (List.replicate n 0) cs = 0
    rw [dot_zero n cs, Nat.zero_mul]
theorem sum_zero (n : Nat) : (List.replicate n 0).sum = 0 := by
  induction n with
  | zero => rfl
  | succ n ih => rw [List.replicate_succ, List.sum_cons, ih]
end GP

/-! GPr: the greatest coin first. -/
namespace GP
open GM
/-- coins rising: how often each is taken, the greatest first, and what is left -/
def tka : List Nat → Nat → List Nat × Nat
  | [], n => ([], n)
  | c :: cs, n => ((tka cs n).2 / c :: (tka cs n).1, (tka cs n).2 % c)
theorem tka_len : ∀ (cs : List Nat) (n : Nat), (tka cs n).1.length = cs.length
  | [], _ => rfl
  | c :: cs, n => by show (tka cs n).1.length + 1 = cs.length + 1; rw [tka_len cs n]
theorem tka_app : ∀ (pre suf : List Nat) (n : Nat), tka (pre ++ suf) n = ((tka pre (tka suf n).2).1 ++ (tka suf n).1, (tka pre (tka suf n).2).2)
  | [], suf, n => rfl
  | c :: pre, suf, n => by
    show ((tka (pre ++ suf) n).2 / c :: (tka (pre ++ suf) n).1, (tka (pre ++ suf) n).2 % c) = _
    rw [tka_app pre suf n]
    rfl
theorem tka_dot : ∀ (cs : List Nat) (n : Nat), dot (tka cs n).1 cs + (tka cs n).2 = n
  | [], n => by show 0 + n = n; omega
  | c :: cs, n => by
    have ih := tka_dot cs n
    have e := Nat.div_add_mod (tka cs n).2 c
    show (tka cs n).2 / c * c + dot (tka cs n).1 cs + (tka cs n).2 % c = n
    rw [Nat.mul_comm]
    omega
/-- coins too great -/
theorem tka_big : ∀ (cs : List Nat) (n : Nat), (∀ c ∈ cs, n < c) → tka cs n = (List.replicate cs.length 0, n)
  | [], _, _ => rfl
  | c :: cs, n, h => by
    have hc := h c List.mem_cons_self
    have ih := tka_big cs n fun d hd => h d (List.mem_cons_of_mem _ hd)
    show ((tka cs n).2 / c :: (tka cs n).1, (tka cs n).2 % c) = _
    rw [ih, Nat.div_eq_of_lt hc, Nat.mod_eq_of_lt hc]
    rfl
/-- one greatest coin -/
theorem tka_step (pre : List Nat) (c : Nat) (suf : List Nat) {n : Nat} (hc : 1 ≤ c) (hcn : c ≤ n) (hs : ∀ d ∈ suf, n < d) :
    ∃ ws x, tka (pre ++ c :: suf) (n - c) = (ws, (tka (pre ++ c :: suf) n).2) ∧ ws[pre.length]? = some x ∧ (tka (pre ++ c :: suf) n).1 = ws.set pre.length (x + 1) := by
  have e1 := tka_big suf n hs
  have e2 := tka_big suf (n - c) fun d hd => by have := hs d hd; omega
  have f1 : tka (c :: suf) n = (n / c :: List.replicate suf.length 0, n % c) := by
    show ((tka suf n).2 / c :: (tka suf n).1, (tka suf n).2 % c) = _
    rw [e1]
  have f2 : tka (c :: suf) (n - c) = ((n - c) / c :: List.replicate suf.length 0, n % c) := by
    show ((tka suf (n - c)).2 / c :: (tka suf (n - c)).1, (tka suf (n - c)).2 % c) = _
    rw [e2, ← Nat.mod_eq_sub_mod hcn]
  have hd : n / c = (n - c) / c + 1 := by
    rw [Nat.div_eq_sub_div (by omega) hcn]
  have hl := tka_len pre (n % c)
  refine ⟨_, (n - c) / c, by rw [tka_app pre (c :: suf) n, tka_app pre (c :: suf) (n - c), f1, f2], ?_, ?_⟩
  · show ((tka pre (n % c)).1 ++ (n - c) / c :: List.replicate suf.length 0)[pre.length]? = _
    rw [← hl, List.getElem?_append_right (Nat.le_refl _), Nat.sub_self]
    rfl
  · rw [tka_app pre (c :: suf) n, f1]
    show (tka pre (n % c)).1 ++ n / c :: List.replicate suf.length 0 = ((tka pre (n % c)).1 ++ (n - c) / c :: List.replicate suf.length 0).set pre.length ((n - c) / c + 1)
    rw [← hl, List.set_append_right _ _ (Nat.le_refl _), Nat.sub_self, hd]
    rfl
theorem dot_mk : ∀ (ws cs : List Nat), ws.length = cs.length → MkN cs ws.sum (dot ws cs)
  | [], [], _ => .zero
  | w :: ws, c :: cs, h => by
    have ih := dot_mk ws cs (by simpa using h)
    have ih : MkN (c :: cs) ws.sum (dot ws cs) := ih.sub fun d hd => List.mem_cons_of_mem _ hd
    rw [List.sum_cons]
    show MkN (c :: cs) (w + ws.sum) (w * c + dot ws cs)
    clear h
    induction w with
    | zero => rw [Nat.zero_add, Nat.zero_mul, Nat.zero_add]; exact ih
    | succ w ih2 =>
      have := MkN.add (List.mem_cons_self (a := c) (l := cs)) ih2
      rw [Nat.succ_mul, show w + 1 + ws.sum = w + ws.sum + 1 by omega, show w * c + c + dot ws cs = w * c + dot ws cs + c by omega]
      exact this
/-- how many coins the greatest first takes -/
theorem tka_few {cs : List Nat} {n : Nat} (h : (tka cs n).2 = 0) : ∃ k, few cs n = some k ∧ k ≤ (tka cs n).1.sum := by
  have e := tka_dot cs n
  rw [h, Nat.add_zero] at e
  have hm := dot_mk _ cs (tka_len cs n)
  rw [e] at hm
  cases hf : few cs n with
  | none => exact absurd hm (few_none hf _)
  | some k => exact ⟨k, rfl, (few_some hf).2 _ hm⟩
/-! ### walked -/
theorem rngC_down (k : Nat) : rngC ((k : Int) - 1) (-1) k = (List.range k).reverse.map dI := by
  cases k with
  | zero => rfl
  | succ F =>
    rw [← range_rev F, List.map_map]
    unfold rngC
    refine List.map_congr_left fun j hj => ?_
    have := List.mem_range.mp hj
    show D.int (((F + 1 : Nat) : Int) - 1 + (j : Int) * (-1)) = D.int ((F - j : Nat) : Int)
    congr 1
    omega
theorem rngSz_down (k : Nat) : rngSz ((k : Int) - 1) (-1) (-1) = k := by
  unfold rngSz
  rw [if_neg (by omega)]
  by_cases h : k = 0
  · subst h; rw [if_neg (by omega)]
  · rw [if_pos (by omega), show (k : Int) - 1 - -1 - 1 = ((k - 1 : Nat) : Int) by omega]
    show ((((k - 1 : Nat) : Int)) / 1 + 1).toNat = k
    rw [Int.ediv_one]
    omega
theorem zero_comp {r : Env} {P : D} {cs : List Nat} (i j : Nat) (hr : r[i]? = some (.imm P)) (hP : itemsOf P = .ok (dN cs)) (hl : cs.length ≤ 100000) (hj : j < r.length) : nComp (iS (vI i)) (gNm j) [j] tYes (cst (.int 0)) r = .ok (dN (List.replicate cs.length 0)) := by
  rw [comp_keep (keep := fun _ => true) (F := fun _ => dI 0) (cs := cs) (by rw [iS_s, vI_s, hr]; exact hP) hl fun c hc => ⟨rfl, fun _ => rfl⟩, List.filter_eq_self.mpr fun _ _ => rfl]
  unfold dN
  rw [List.map_replicate, List.map_const']
end GP

/-! GPs: coins as a purse, the coins of both. -/
namespace GP
open GM
theorem keeps_ne {cs : List Nat} (ne : cs ≠ []) (asc : cs.Pairwise (· < ·)) (pos : ∀ c ∈ cs, 1 ≤ c) : keeps cs ≠ [] := by
  obtain ⟨c, r, e⟩ := List.exists_cons_of_ne_nil ne
  have : c ∈ keeps cs := by
    rw [mem_keeps]
    refine ⟨e ▸ List.mem_cons_self, ?_⟩
    rw [e, asc_head_min (e ▸ asc)]
    cases h : mkB [] c with
    | false => rfl
    | true =>
      have h1 := (mkB_iff.mp h).of_nil
      have h2 := pos c (e ▸ List.mem_cons_self)
      omega
  exact List.ne_nil_of_mem this
theorem ix_last {cs : List Nat} {l : Nat} (hl : cs.getLast? = some l) : atI (dN cs) (-1) = some (dI l) := by
  have ne : cs ≠ [] := fun z => by rw [z] at hl; cases hl
  rw [atI_neg1 (by unfold dN; intro z; exact ne (List.map_eq_nil_iff.mp z))]
  unfold dN
  rw [List.getLast?_map, hl]; rfl
def fitsB (cs : List Nat) : Bool := decide (cs.length ≤ 40) && decide (cs.getLastD 0 ≤ 400)
theorem getLastD_is {cs : List Nat} {l : Nat} (hl : cs.getLast? = some l) : cs.getLastD 0 = l := by rw [List.getLastD_eq_getLast?, hl]; rfl
theorem as_purse_ok {cs : List Nat} (ne : cs ≠ []) : f_as_purse [.lst (dN cs)] = if fitsB cs then .rt (.tup (dN cs)) else .ex "TooBig" := by
  obtain ⟨l, hl⟩ : ∃ l, cs.getLast? = some l := ⟨_, List.getLast?_eq_some_getLast ne⟩
  have e1 : gIx (.lst (dN cs)) (.int (-1)) = .ok (dI l) := by
    show ofO (atI (dN cs) (-1)) = _
    rw [ix_last hl]; rfl
  have e2 : fitsB cs = (decide (cs.length ≤ 40) && decide (l ≤ 400)) := by unfold fitsB; rw [getLastD_is hl]
  by_cases h1 : cs.length ≤ 40
  · have h1' : ¬ (40 : Int) < ((dN cs).length : Int) := by rw [dN_len]; omega
    by_cases h2 : l ≤ 400
    · have h2' : ¬ (400 : Int) < (l : Int) := by omega
      rw [e2, decide_eq_true h1, decide_eq_true h2, if_pos (by rfl)]
      refine run_rt rfl ?_ (by show noLs _ = true; exact noLs_dN cs)
      unfold b_as_purse
      refine (q_no (by simp [startE, h1', e1, h2'])).trans ?_
      exact q_ret _ (by simp [startE, bTuple])
    · have h2' : (400 : Int) < (l : Int) := by omega
      rw [e2, decide_eq_true h1, decide_eq_false h2, if_neg (by simp)]
      refine run_ex (q := [.imm (.lst (dN cs))]) rfl ?_
      unfold b_as_purse
      exact (q_yes (by simp [startE, h1', e1, h2'])).trans rfl
  · have h1' : (40 : Int) < ((dN cs).length : Int) := by rw [dN_len]; omega
    rw [e2, decide_eq_false h1, if_neg (by simp)]
    refine run_ex (q := [.imm (.lst (dN cs))]) rfl ?_
    unfold b_as_purse
    exact (q_yes (by simp [startE, h1'])).trans rfl
theorem setN_swap (a b : List Nat) : setN (a ++ b) = setN (b ++ a) := asc_ext (setN_asc _) (setN_asc _) fun x => by rw [mem_setN, mem_setN, List.mem_append, List.mem_append, or_comm]
end GP

/-! GPu: all ways. -/
namespace GP
open GM
/-- all ways, rising -/
def W : List Nat → Nat → List (List Nat)
  | [], n => if n = 0 then [[]] else []
  | c :: cs, n => (List.range (n / c + 1)).flatMap fun o => (W cs (n - o * c)).map (o :: ·)
/-- coin by coin from the last on: what is taken, what is left -/
def Fd : List Nat → Nat → List (List Nat × Nat)
  | [], n => [([], n)]
  | c :: cs, n => (Fd cs n).flatMap fun p => (List.range (p.2 / c + 1)).map fun o => (o :: p.1, p.2 - o * c)
def Ld (c : Nat) (cs : List Nat) (n : Nat) : List (List Nat) := ((Fd cs n).filter fun p => p.2 % c == 0).map fun p => p.2 / c :: p.1
theorem W_cons (c : Nat) (cs : List Nat) (n : Nat) : W (c :: cs) n = (List.range (n / c + 1)).flatMap fun o => (W cs (n - o * c)).map (o :: ·) := by rw [W]
theorem mul_le_of {o n c : Nat} (hc : 1 ≤ c) : o < n / c + 1 ↔ o * c ≤ n := by
  rw [Nat.lt_succ_iff, Nat.le_div_iff_mul_le hc]
theorem mem_W : ∀ {cs : List Nat} {n : Nat} {t : List Nat}, (∀ c ∈ cs, 1 ≤ c) → (t ∈ W cs n ↔ t.length = cs.length ∧ dot t cs = n)
  | [], n, t, _ => by
    unfold W
    constructor
    · intro h
      split at h
      · rename_i e
        rw [List.mem_singleton.mp h, e]
        exact ⟨rfl, rfl⟩
      · cases h
    · rintro ⟨h1, h2⟩
      have : t = [] := List.length_eq_zero_iff.mp h1
      subst this
      have h2 : 0 = n := h2
      rw [if_pos h2.symm]
      exact List.mem_singleton.mpr rfl
  | c :: cs, n, t, h => by
    have hc := h c List.mem_cons_self
    have ih := fun m u => mem_W (cs := cs) (n := m) (t := u) fun d hd => h d (List.mem_cons_of_mem _ hd)
    unfold W
    rw [List.mem_flatMap]
    constructor
    · rintro ⟨o, ho, hm⟩
      obtain ⟨u, hu, e⟩ := List.mem_map.mp hm
      subst e
      obtain ⟨h1, h2⟩ := (ih _ _).mp hu
      have h3 := (mul_le_of hc).mp (List.mem_range.mp ho)
      refine ⟨by rw [List.length_cons, List.length_cons, h1], ?_⟩
      show o * c + dot u cs = n
      omega
    · rintro ⟨h1, h2⟩
      cases t with
      | nil => cases h1
      | cons o u =>
        have h2 : o * c + dot u cs = n := h2
        have h1 : u.length = cs.length := by simpa using h1
        exact ⟨o, List.mem_range.mpr ((mul_le_of hc).mpr (by omega)), List.mem_map.mpr ⟨u, (ih _ _).mpr ⟨h1, by omega⟩, rfl⟩⟩
theorem mem_Fd : ∀ {cs : List Nat} {n : Nat} {p : List Nat × Nat}, (∀ c ∈ cs, 1 ≤ c) → (p ∈ Fd cs n ↔ p.1.length = cs.length ∧ dot p.1 cs + p.2 = n)
  | [], n, (t, l), _ => by
    unfold Fd
    constructor
    · intro h
      have h := List.mem_singleton.mp h
      cases h
      exact ⟨rfl, Nat.zero_add _⟩
    · rintro ⟨h1, h2⟩
      have : t = [] := List.length_eq_zero_iff.mp h1
      subst this
      have h2 : 0 + l = n := h2
      rw [Nat.zero_add] at h2
      subst h2
      exact List.mem_singleton.mpr rfl
  | c :: cs, n, (t, l), h => by
    have hc := h c List.mem_cons_self
    have ih := fun q => mem_Fd (cs := cs) (n := n) (p := q) fun d hd => h d (List.mem_cons_of_mem _ hd)
    unfold Fd
    rw [List.mem_flatMap]
    constructor
    · rintro ⟨q, hq, hm⟩
      obtain ⟨o, ho, e⟩ := List.mem_map.mp hm
      cases e
      obtain ⟨h1, h2⟩ := (ih _).mp hq
      have h3 := (mul_le_of hc).mp (List.mem_range.mp ho)
      refine ⟨by simpa using h1, ?_⟩
      show o * c + dot q.1 cs + (q.2 - o * c) = n
      omega
    · rintro ⟨h1, h2⟩
      cases t with
      | nil => cases h1
      | cons o u =>
        have h2 : o * c + dot u cs + l = n := h2
        have h1 : u.length = cs.length := by simpa using h1
        refine ⟨(u, l + o * c), (ih _).mpr ⟨h1, by show dot u cs + (l + o * c) = n; omega⟩, List.mem_map.mpr ⟨o, List.mem_range.mpr ((mul_le_of hc).mpr (Nat.le_add_left _ _)), ?_⟩⟩
        show (o :: u, l + o * c - o * c) = _
        rw [Nat.add_sub_cancel]
theorem mem_Ld {c : Nat} {cs : List Nat} {n : Nat} {t : List Nat} (h : ∀ d ∈ c :: cs, 1 ≤ d) : t ∈ Ld c cs n ↔ t.length = (c :: cs).length ∧ dot t (c :: cs) = n := by
  have hc := h c List.mem_cons_self
  have ih := fun q => mem_Fd (cs := cs) (n := n) (p := q) fun d hd => h d (List.mem_cons_of_mem _ hd)
  unfold Ld
  rw [List.mem_map]
  constructor
  · rintro ⟨q, hq, e⟩
    obtain ⟨q1, q2⟩ := List.mem_filter.mp hq
    obtain ⟨h1, h2⟩ := (ih _).mp q1
    subst e
    refine ⟨by rw [List.length_cons, List.length_cons, h1], ?_⟩
    show q.2 / c * c + dot q.1 cs = n
    have := Nat.div_mul_cancel (Nat.dvd_of_mod_eq_zero (by simpa using q2))
    omega
  · rintro ⟨h1, h2⟩
    cases t with
    | nil => cases h1
    | cons o u =>
      have h2 : o * c + dot u cs = n := h2
      have h1 : u.length = cs.length := by simpa using h1
      refine ⟨(u, o * c), List.mem_filter.mpr ⟨(ih _).mpr ⟨h1, by show dot u cs + o * c = n; omega⟩, ?_⟩, ?_⟩
      · show (o * c % c == 0) = true
        rw [Nat.mul_mod_left]; rfl
      · show o * c / c :: u = o :: u
        rw [Nat.mul_div_cancel _ hc]
theorem Fd_ne : ∀ (cs : List Nat) (n : Nat), (Fd cs n).Pairwise fun p q => p.1 ≠ q.1
  | [], n => List.pairwise_singleton _ _
  | c :: cs, n => by
    unfold Fd
    refine List.pairwise_flatMap.mpr ⟨fun p _ => List.pairwise_map.mpr (List.nodup_range.imp fun {a b} h z => h (List.cons.inj z).1), (Fd_ne cs n).imp fun {p q} h x hx y hy z => h ?_⟩
    obtain ⟨o, _, e⟩ := List.mem_map.mp hx
    obtain ⟨o', _, e'⟩ := List.mem_map.mp hy
    subst e e'
    exact (List.cons.inj z).2
theorem Ld_nodup (c : Nat) (cs : List Nat) (n : Nat) : (Ld c cs n).Nodup := by
  unfold Ld
  exact List.pairwise_map.mpr (((Fd_ne cs n).sublist List.filter_sublist).imp fun {p q} h z => h (List.cons.inj z).2)
theorem W_asc : ∀ (cs : List Nat) (n : Nat), (W cs n).Pairwise fun t u => lexL (zs t) (zs u) = true
  | [], n => by
    unfold W
    split
    · exact List.pairwise_singleton _ _
    · exact .nil
  | c :: cs, n => by
    unfold W
    refine List.pairwise_flatMap.mpr ⟨fun o _ => List.pairwise_map.mpr ((W_asc cs _).imp fun {t u} h => ?_), List.pairwise_lt_range.imp fun {a b} hab x hx y hy => ?_⟩
    · show (if (o : Int) = (o : Int) then lexL (zs t) (zs u) else _) = true
      rw [if_pos rfl]; exact h
    · obtain ⟨t, _, e⟩ := List.mem_map.mp hx
      obtain ⟨u, _, e'⟩ := List.mem_map.mp hy
      subst e e'
      show (if (a : Int) = (b : Int) then lexL (zs t) (zs u) else decide ((a : Int) < (b : Int))) = true
      rw [if_neg (by omega)]
      exact decide_eq_true (by omega)
theorem W_nodup (cs : List Nat) (n : Nat) : (W cs n).Nodup := (W_asc cs n).imp fun {t u} h z => by
  subst z
  rw [lexL_refl] at h
  cases h
theorem Ld_perm {c : Nat} {cs : List Nat} (n : Nat) (h : ∀ d ∈ c :: cs, 1 ≤ d) : (W (c :: cs) n).Perm (Ld c cs n) :=
  (List.perm_ext_iff_of_nodup (W_nodup _ _) (Ld_nodup _ _ _)).mpr fun t => (mem_W h).trans (mem_Ld h).symm
theorem W_step {c : Nat} {cs : List Nat} {n : Nat} (hc : 1 ≤ c) (hn : c ≤ n) : (W (c :: cs) n).length = (W cs n).length + (W (c :: cs) (n - c)).length := by
  have e : n / c + 1 = ((n - c) / c + 1) + 1 := by rw [Nat.div_eq n c, if_pos ⟨hc, hn⟩]
  rw [W_cons, W_cons, e, List.range_succ_eq_map, List.flatMap_cons, List.length_append, List.length_map, List.flatMap_map, List.length_flatMap, List.length_flatMap, Nat.zero_mul, Nat.sub_zero]
  congr 2
  refine List.map_congr_left fun o _ => ?_
  rw [List.length_map, List.length_map, show n - (o + 1) * c = n - c - o * c by rw [Nat.succ_mul]; omega]
theorem W_low {c : Nat} {cs : List Nat} {n : Nat} (hn : n < c) : (W (c :: cs) n).length = (W cs n).length := by
  rw [W_cons, Nat.div_eq_of_lt hn]
  show ((W cs (n - 0 * c)).map _ ++ []).length = _
  rw [List.append_nil, List.length_map, Nat.zero_mul, Nat.sub_zero]
theorem W_len : ∀ (cs : List Nat) (n : Nat), (∀ c ∈ cs, 1 ≤ c) → (W cs n).length = ways cs n
  | [], n, _ => by
    rw [ways_nil]
    unfold W
    split <;> rfl
  | c :: cs, n, h => by
    have hc := h c List.mem_cons_self
    have ih := fun m => W_len cs m fun d hd => h d (List.mem_cons_of_mem _ hd)
    induction n using Nat.strongRecOn with
    | ind n ih2 =>
      by_cases hn : c ≤ n
      · rw [W_step hc hn, ih n, ih2 (n - c) (by omega), ways_at hc hn]
      · rw [W_low (by omega), ih n, ways_low (by omega)]
theorem W_part {c : Nat} {cs : List Nat} {n o : Nat} (h : o < n / c + 1) : (W cs (n - o * c)).length ≤ (W (c :: cs) n).length := by
  show _ ≤ ((List.range (n / c + 1)).flatMap fun o => (W cs (n - o * c)).map (o :: ·)).length
  rw [show n / c + 1 = o + ((n / c - o) + 1) by omega, List.range_add, List.flatMap_append, List.length_append, List.range_succ_eq_map, List.map_cons, List.flatMap_cons, List.length_append, List.length_map, Nat.add_zero]
  omega
theorem Fd_left {cs : List Nat} {n : Nat} (h : ∀ c ∈ cs, 1 ≤ c) {p : List Nat × Nat} (hp : p ∈ Fd cs n) : p.2 ≤ n := by
  have := ((mem_Fd h).mp hp).2
  omega
theorem sumN_le {l : List Nat} {b : Nat} (h : ∀ x ∈ l, x ≤ b) : l.sum ≤ l.length * b := by
  induction l with
  | nil => exact Nat.zero_le _
  | cons a r ih =>
    have := ih fun x hx => h x (List.mem_cons_of_mem _ hx)
    have := h a List.mem_cons_self
    rw [List.sum_cons, List.length_cons, Nat.succ_mul]
    omega
theorem Fd_size : ∀ (cs : List Nat) (n : Nat), (∀ c ∈ cs, 1 ≤ c) → (Fd cs n).length ≤ (n + 1) ^ cs.length
  | [], n, _ => Nat.le_refl _
  | c :: cs, n, h => by
    have h' : ∀ d ∈ cs, 1 ≤ d := fun d hd => h d (List.mem_cons_of_mem _ hd)
    have ih := Fd_size cs n h'
    unfold Fd
    rw [List.length_flatMap, List.length_cons, Nat.pow_succ]
    refine Nat.le_trans (sumN_le (b := n + 1) fun x hx => ?_) ?_
    · obtain ⟨p, hp, e⟩ := List.mem_map.mp hx
      subst e
      have h1 := Fd_left h' hp
      have h2 := Nat.div_le_self p.2 c
      rw [List.length_map, List.length_range]
      omega
    · rw [List.length_map]
      exact Nat.mul_le_mul_right _ ih
end GP

/-! GPv: all ways, by the defs. -/
namespace GP
open GM
def tupN (t : List Nat) : D := .tup (dN t)
def tupF (p : List Nat × Nat) : D := .tup [.tup (dN p.1), dI p.2]
theorem lim_of {n : Nat} (h : n ≤ 3000000) : n ≤ lim := by unfold lim; omega
theorem capC_of {α : Type} {n : Nat} {k : Rs α} (h : n ≤ 3000000) : capC n k = k := if_pos (lim_of h)
theorem capS_of {n : Nat} {k : So} (h : n ≤ 3000000) : capS n k = k := if_pos (by unfold lim; omega)
theorem big_ok {i j : Nat} (h : i ≤ 1000000) : gMul (dI i) (dI j) = .ok (dI (i * j)) := by
  show gMul (.int (i : Int)) (.int (j : Int)) = _
  rw [gMul_s (.inl (by unfold big64; omega))]
  show Rs.ok (D.int _) = Rs.ok (D.int _)
  rw [Int.natCast_mul]
theorem ix_0 {c : Nat} {cs : List Nat} : gIx (.tup (dN (c :: cs))) (.int 0) = .ok (dI c) := by
  show ofO (atI (dN (c :: cs)) ((0 : Nat) : Int)) = _
  rw [atI_nat (v := dI c) rfl]; rfl
theorem cat_1 (o : Nat) {t : List Nat} (h : t.length ≤ 1000) : gCatT (.tup [dI o]) (.tup (dN t)) = .ok (tupN (o :: t)) := by
  show (if _ ≤ lim then Rs.ok _ else .bad) = _
  rw [if_pos (lim_of (by rw [dN_len]; show 1 + _ ≤ _; omega))]
  rfl
theorem tupN_sort (l : List (List Nat)) : dTups (l.map zs) = l.map tupN := by
  unfold dTups
  rw [List.map_map]
  refine List.map_congr_left fun t _ => ?_
  show D.tup (dInts (zs t)) = D.tup (dN t)
  rw [dN_ints]
theorem asTups_N : ∀ {l : List (List Nat)}, (∀ t ∈ l, t ≠ []) → asTups (l.map tupN) = some (l.map zs)
  | [], _ => rfl
  | t :: l, h => by
    have ih := asTups_N (l := l) fun u hu => h u (List.mem_cons_of_mem _ hu)
    have ht : (zs t).isEmpty = false := by
      have := h t List.mem_cons_self
      cases t with
      | nil => exact absurd rfl this
      | cons _ _ => rfl
    show (asInts (dN t)).bind (fun ns => if ns.isEmpty then none else (asTups (l.map tupN)).map fun l => ns :: l) = _
    rw [dN_ints, asInts_ints, ih]
    show (if (zs t).isEmpty = true then none else _) = _
    rw [ht]
    rfl
theorem SrL_of {l : List (List Nat)} (h : l.Pairwise fun t u => lexL (zs t) (zs u) = true) : SrL (l.map zs) := List.pairwise_map.mpr (h.imp fun h => lexL_asym _ _ h)
/-- sorted tuples -/
theorem sortT_ok {l m : List (List Nat)} (h : ∀ t ∈ m, t ≠ []) (hl : m.length ≤ 3000000) (p : l.Perm m) (s : l.Pairwise fun t u => lexL (zs t) (zs u) = true) : bSortT (.lst (m.map tupN)) = .ok (l.map tupN) := by
  unfold bSortT
  simp only [asTups_N h]
  rw [if_pos (by rw [List.length_map]; exact lim_of hl), ← sortL_is (p.map zs) (SrL_of s), tupN_sort]
def down : Nat → List D
  | 0 => []
  | m + 1 => dI (m + 1) :: down m
theorem rng_down : ∀ m : Nat, rngC (m : Int) (-1) m = down m
  | 0 => rfl
  | m + 1 => by
    have ih := rng_down m
    unfold rngC at ih ⊢
    rw [List.range_succ_eq_map, List.map_cons, List.map_map]
    refine congr (congrArg List.cons ?_) (Eq.trans (List.map_congr_left fun k _ => ?_) ih)
    · exact congrArg D.int (by show ((m + 1 : Nat) : Int) + ((0 : Nat) : Int) * (-1) = ((m + 1 : Nat) : Int); omega)
    · show D.int _ = D.int _
      exact congrArg D.int (by show ((m + 1 : Nat) : Int) + ((k + 1 : Nat) : Int) * (-1) = (m : Int) + (k : Int) * (-1); omega)
theorem cut_w {c : Nat} {r : List Nat} : cut (dN (c :: r)) (some 1) none = dN r := by
  have h : sIx (dN (c :: r)).length 0 (some 1) = 1 := by
    show (if (1 : Int) < 0 then ((1 : Int) + (((dN r).length + 1 : Nat) : Int)).toNat else min (1 : Int).toNat ((dN r).length + 1)) = 1
    rw [if_neg (by omega)]
    omega
  unfold cut
  rw [h]
  show ((dN (c :: r)).drop 1).take ((dN (c :: r)).length - 1) = _
  exact List.take_of_length_le (by show (dN r).length ≤ (dN r).length + 1 - 1; omega)
theorem ext_ok {i : Nat} {e : En} {r : Env} {ds es : List D} (h : r[i]? = some (.own ds)) (he : e r = .ok es) (hl : ds.length + es.length ≤ 3000000) : sExt i e r = .nx (r.set i (.own (ds ++ es))) := by
  unfold sExt
  rw [h]
  show liftS r (e r) _ = _
  rw [he, liftS_ok, if_pos (lim_of hl)]
theorem li_turn {g : List D → Ro} {c : Nat} {cs : List Nat} {n o : Nat} (hc : ∀ d ∈ c :: cs, 1 ≤ d ∧ d ≤ 400) (hcl : cs.length ≤ 900) (hn : n ≤ 400) (ho : o < n / c + 1) (hg : ∀ m, m ≤ n → 0 < ways cs m → (W cs m).length ≤ 200 → g [.tup (dN cs), dI m] = .rn ((W cs m).map tupN))
    (hw : (W (c :: cs) n).length ≤ 200) {acc : List D} (ha : acc.length ≤ 1000) (x5 x6 : SV) :
    ∃ y5 y6, o_listed0 g [.imm (.tup (dN (c :: cs))), .imm (dI n), .own acc, .imm (.lst (dN (waysT cs (n + 1)))), .imm (dI o), x5, x6] =
      .nx [.imm (.tup (dN (c :: cs))), .imm (dI n), .own (acc ++ ((W cs (n - o * c)).map (o :: ·)).map tupN), .imm (.lst (dN (waysT cs (n + 1)))), .imm (dI o), y5, y6] := by
  obtain ⟨c1, c2⟩ := hc c List.mem_cons_self
  have h1 := (mul_le_of c1).mp ho
  have h2 : o ≤ n := by have := Nat.div_le_self n c; omega
  have e1 := big_ok (i := o) (j := c) (by omega)
  have e2 := sub_ok h1
  have e3 := dN_ix (waysT_get (l := cs) (n := n + 1) (k := n - o * c) (by omega))
  have e0 : gIx (.tup (dN (c :: cs))) (.int 0) = .ok (dI c) := ix_0
  have hpart := W_part (cs := cs) ho
  have hlen := W_len cs (n - o * c) fun d hd => (hc d (List.mem_cons_of_mem _ hd)).1
  refine ⟨.imm (dI (n - o * c)), x6, ?_⟩
  rw [o_listed0_s]
  refine (q_set (dI (n - o * c)) (by simp [e0, e1, e2])).trans ?_
  by_cases hz : 0 < ways cs (n - o * c)
  · have eg := hg (n - o * c) (Nat.sub_le _ _) hz (by omega)
    have ecomp : nComp (nCall g (aCons (eSlT (vI 0) (oAt (cst (.int 1))) oNo) (aCons (vI 5) aNil))) (gNm 6) [6] tYes (op2 gCatT (eTup (aCons (vI 4) aNil)) (vI 6)) [.imm (.tup (dN (c :: cs))), .imm (dI n), .own acc, .imm (.lst (dN (waysT cs (n + 1)))), .imm (dI o), .imm (dI (n - o * c)), x6] =
        .ok (((W cs (n - o * c)).map (o :: ·)).map tupN) := by
      have es : nCall g (aCons (eSlT (vI 0) (oAt (cst (.int 1))) oNo) (aCons (vI 5) aNil)) [.imm (.tup (dN (c :: cs))), .imm (dI n), .own acc, .imm (.lst (dN (waysT cs (n + 1)))), .imm (dI o), .imm (dI (n - o * c)), x6] = .ok ((W cs (n - o * c)).map tupN) := by
        show Rs.bind (Rs.ok [D.tup (cut (dN (c :: cs)) (some 1) none), dI (n - o * c)]) _ = _
        rw [cut_w, Rs.bind_ok, eg]
        rfl
      rw [nComp_s, es, Rs.bind_ok, capC_ok (by rw [List.length_map]; omega), wipe_s, List.map_map]
      refine lcGo_all tupN (fun t => tupN (o :: t)) (W cs (n - o * c)) fun t ht => ⟨_, gNm_s _ _ _, ?_⟩
      have hl := ((mem_W fun d hd => (hc d (List.mem_cons_of_mem _ hd)).1).mp ht).1
      have e4 := cat_1 o (t := t) (by omega)
      simp [tupN] at e4 ⊢
      exact e4
    have et : tBl (op2 gGt (op2 gIx (vI 3) (vI 5)) (cst (.int 0))) [.imm (.tup (dN (c :: cs))), .imm (dI n), .own acc, .imm (.lst (dN (waysT cs (n + 1)))), .imm (dI o), .imm (dI (n - o * c)), x6] = .ok true := by
      simp [e3]
      exact hz
    rw [sIf_s]
    refine (congrArg (fun x => liftS _ x _) et).trans ?_
    rw [liftS_ok, if_pos rfl]
    exact ext_ok rfl ecomp (by rw [List.length_map, List.length_map]; omega)
  · have e5 : W cs (n - o * c) = [] := List.length_eq_zero_iff.mp (by omega)
    have et : tBl (op2 gGt (op2 gIx (vI 3) (vI 5)) (cst (.int 0))) [.imm (.tup (dN (c :: cs))), .imm (dI n), .own acc, .imm (.lst (dN (waysT cs (n + 1)))), .imm (dI o), .imm (dI (n - o * c)), x6] = .ok false := by
      simp [e3]
      omega
    rw [sIf_s]
    refine (congrArg (fun x => liftS _ x _) et).trans ?_
    rw [liftS_ok, if_neg Bool.false_ne_true, e5]
    show So.nx _ = So.nx _
    rw [show (([] : List (List Nat)).map (o :: ·)).map tupN = [] from rfl, List.append_nil]
    rfl
theorem li_loop {g : List D → Ro} {c : Nat} {cs : List Nat} {n : Nat} (hc : ∀ d ∈ c :: cs, 1 ≤ d ∧ d ≤ 400) (hcl : cs.length ≤ 900) (hn : n ≤ 400) (hg : ∀ m, m ≤ n → 0 < ways cs m → (W cs m).length ≤ 200 → g [.tup (dN cs), dI m] = .rn ((W cs m).map tupN))
    (hw : (W (c :: cs) n).length ≤ 200) : ∀ (k o : Nat) (acc : List D) (x4 x5 x6 : SV), o + k = n / c + 1 → acc.length + ((List.range' o k).flatMap fun o => (W cs (n - o * c)).map (o :: ·)).length ≤ 1000 →
    ∃ y4 y5 y6, forGo (gNm 4) (o_listed0 g) ((List.range' o k).map dI) [.imm (.tup (dN (c :: cs))), .imm (dI n), .own acc, .imm (.lst (dN (waysT cs (n + 1)))), x4, x5, x6] =
      .nx [.imm (.tup (dN (c :: cs))), .imm (dI n), .own (acc ++ ((List.range' o k).flatMap fun o => (W cs (n - o * c)).map (o :: ·)).map tupN), .imm (.lst (dN (waysT cs (n + 1)))), y4, y5, y6] := by
  intro k
  induction k with
  | zero =>
    intro o acc x4 x5 x6 _ _
    refine ⟨x4, x5, x6, ?_⟩
    rw [show ((List.range' o 0).flatMap fun o => (W cs (n - o * c)).map (o :: ·)).map tupN = [] from rfl, List.append_nil]
    rfl
  | succ k ih =>
    intro o acc x4 x5 x6 ho ha
    rw [List.range'_succ, List.flatMap_cons, List.length_append] at ha
    obtain ⟨z5, z6, e1⟩ := li_turn hc hcl hn (o := o) (by omega) hg hw (acc := acc) (by omega) x5 x6
    obtain ⟨y4, y5, y6, e2⟩ := ih (o + 1) (acc ++ ((W cs (n - o * c)).map (o :: ·)).map tupN) (.imm (dI o)) z5 z6 (by omega) (by rw [List.length_append, List.length_map]; omega)
    refine ⟨y4, y5, y6, ?_⟩
    rw [List.range'_succ, List.map_cons, List.flatMap_cons, List.map_append, ← List.append_assoc]
    exact (for_nx rfl e1).trans e2
theorem listed_ok : ∀ (cs : List Nat) (k n : Nat), cs.length < k → cs.length ≤ 900 → (∀ c ∈ cs, 1 ≤ c ∧ c ≤ 400) → n ≤ 400 → 0 < ways cs n → (W cs n).length ≤ 200 → f_listed_n k [.tup (dN cs), dI n] = .rn ((W cs n).map tupN) := by
  intro cs
  induction cs with
  | nil =>
    intro k n hk _ _ _ hw _
    obtain ⟨j, rfl⟩ : ∃ j, k = j + 1 := ⟨k - 1, by have : 0 < k := hk; omega⟩
    have hn : n = 0 := by
      rw [ways_nil] at hw
      split at hw
      · assumption
      · omega
    subst hn
    rw [f_listed_ns]
    refine run_rn rfl (d := [tupN []]) ?_ rfl
    unfold b_listed
    refine (q_yes (by simp [startE]; rfl)).trans ?_
    exact q_retNS [tupN []] rfl
  | cons c cs ih =>
    intro k n hk hcl hc hn hw hl
    obtain ⟨j, rfl⟩ : ∃ j, k = j + 1 := ⟨k - 1, by omega⟩
    obtain ⟨c1, c2⟩ := hc c List.mem_cons_self
    have hcs : ∀ d ∈ cs, 1 ≤ d ∧ d ≤ 400 := fun d hd => hc d (List.mem_cons_of_mem _ hd)
    have hk' : cs.length < j := by rw [List.length_cons] at hk; omega
    have hcl' : cs.length ≤ 900 := by rw [List.length_cons] at hcl; omega
    obtain ⟨y4, y5, y6, e⟩ := li_loop (g := f_listed_n j) hc hcl' hn (fun m hm h1 h2 => ih j m hk' hcl' hcs (by omega) h1 h2) hl (n / c + 1) 0 [] .no .no .no (by omega) (by
      rw [← List.range_eq_range', ← W_cons]; show 0 + _ ≤ _; omega)
    rw [← List.range_eq_range', ← W_cons, List.nil_append] at e
    have ew := wut_ok (cs := cs) (t := .tup (dN cs)) rfl (fun c hc => by have := hcs c hc; omega) (last := n) (by omega)
    rw [f_listed_ns]
    refine run_rn rfl (d := (W (c :: cs) n).map tupN) ?_ (noLs_map (fun t => by show noLs (dN t) = true; exact noLs_dN t) _)
    unfold b_listed
    refine (q_no rfl).trans ?_
    refine (q_setN [] rfl).trans ?_
    refine (q_set (.lst (dN (waysT cs (n + 1)))) ?_).trans ?_
    · have ea : (aCons (eSlT (vI 0) (oAt (cst (.int 1))) oNo) (aCons (vI 1) aNil)) [.imm (.tup (dN (c :: cs))), .imm (dI n), .own [], .no, .no, .no, .no] = .ok [.tup (dN cs), dI n] := by
        show Rs.ok [D.tup (cut (dN (c :: cs)) (some 1) none), dI n] = _
        rw [cut_w]
      rw [toE_s]
      refine (congrArg (Rs.map D.lst) (show nCall f_ways_up_to _ _ = .ok (dN (waysT cs (n + 1))) from ?_)).trans rfl
      rw [nCall_s]
      refine (congrArg (fun x => Rs.bind x fun ds => roN (f_ways_up_to ds)) ea).trans ?_
      rw [Rs.bind_ok, ew]
      rfl
    refine (q_for ((List.range (n / c + 1)).map dI) ?_ e).trans ?_
    · have f1 : gIx (.tup (dN (c :: cs))) (.int 0) = .ok (dI c) := ix_0
      have f2 : gDiv (dI n) (dI c) = .ok (dI (n / c)) := by rw [gDiv_s (by omega) (by omega)]; rfl
      have hd := Nat.div_le_self n c
      generalize n / c = w at f2 hd ⊢
      rw [iR1_i (j := (w : Int) + 1) (by
        show Rs.bind (Rs.bind (Rs.ok (dI n)) _) _ = _
        simp [f1, f2]) (in62 (by omega) (by omega)), show ((w : Int) + 1).toNat = w + 1 by omega, List.range_eq_range']
      exact congrArg Rs.ok (rng_r' 0 _)
    · rfl
theorem all_many {cs : List Nat} (p : Pu cs) {n : Nat} (hn : n ≤ 400) (h : 200 < ways cs n) : f_all_ways [.tup (dN cs), dI n] = .ex "TooMany" := by
  have e := count_ok p hn
  refine run_ex (q := startE 2 [.tup (dN cs), dI n]) rfl ?_
  unfold b_all_ways
  have : (200 : Int) < (ways cs n : Int) := by omega
  exact (q_yes (by simp [startE, e, this])).trans rfl
theorem all_ok {cs : List Nat} (p : Pu cs) {n : Nat} (hn : n ≤ 400) (hl : cs.length < 7) (h : ways cs n ≤ 200) : f_all_ways [.tup (dN cs), dI n] = .rn ((W cs n).map tupN) := by
  have e := count_ok p hn
  have hpos : ∀ c ∈ cs, 1 ≤ c := p.pos
  have hlen := W_len cs n hpos
  refine run_rn rfl (d := (W cs n).map tupN) ?_ (noLs_map (fun t => by show noLs (dN t) = true; exact noLs_dN t) _)
  unfold b_all_ways
  have h1 : ¬ (200 : Int) < (ways cs n : Int) := by omega
  refine (q_no (by simp [startE, e, h1])).trans ?_
  by_cases hz : ways cs n = 0
  · have e5 : W cs n = [] := List.length_eq_zero_iff.mp (by omega)
    rw [e5]
    refine (q_yes (by simp [startE, e, hz])).trans ?_
    exact q_retNS [] rfl
  · have hz' : ¬ ((ways cs n : Int) == 0) = true := by rw [beq_iff_eq]; omega
    have el := listed_ok cs 7 n hl (by omega) (fun c hc => ⟨p.pos c hc, p.top c hc⟩) hn (by omega) (by omega)
    refine (q_no (by simp [startE, e, hz])).trans ?_
    refine q_retN _ ?_
    show roN (f_listed_n 7 [.tup (dN cs), dI n]) = _
    rw [el]
    rfl
end GP

/-! GPw: the coins that no two sums come to, of any kind of sums. -/
namespace GP
open GM
theorem q_nx {a b : Es} {r q : Env} (h : a r = .nx q) : sSeq a b r = b q := by rw [sSeq_s, h]
theorem app_s {i : Nat} {e : Ee} {r : Env} {ds : List D} {d : D} (h : r[i]? = some (.own ds)) (he : e r = .ok d) (hl : ds.length ≤ 100000) : sApp i e r = .nx (r.set i (.own (ds ++ [d]))) := by rw [sApp_s, h]; show liftS r (e r) _ = _; rw [he, liftS_ok, capS_ok hl]
theorem for_nm {i : Nat} {b : Es} {d : D} {ds : List D} {r r1 q : Env} (h : r.set i (.imm d) = r1) (h2 : b r1 = .nx q) : forGo (gNm i) b (d :: ds) r = forGo (gNm i) b ds q := for_nx ((gNm_s _ _ _).trans (congrArg Rs.ok h)) h2
theorem q_rt {a b : Es} {r : Env} {d : D} (h : a r = .rt d) : sSeq a b r = .rt d := by rw [sSeq_s, h]
/-- sums: nought, with each two what they come to, all from N on -/
structure Sg (T : Nat → Bool) (N : Nat) : Prop where
  zero : T 0 = true
  add : ∀ a b, T a = true → T b = true → T (a + b) = true
  far : ∀ n, N ≤ n → T n = true
def isAt (T : Nat → Bool) (n : Nat) : Bool := decide (0 < n ∧ T n = true ∧ ∀ a, a < n → 0 < a → T a = true → T (n - a) = false)
theorem isAt_iff {T : Nat → Bool} {n : Nat} : isAt T n = true ↔ 0 < n ∧ T n = true ∧ ∀ a, a < n → 0 < a → T a = true → T (n - a) = false := decide_eq_true_iff
theorem at_below {T : Nat → Bool} {N : Nat} (S : Sg T N) : ∀ k n, n ≤ k → 0 < n → T n = true → ∃ c, isAt T c = true ∧ c ≤ n ∧ T (n - c) = true := by
  intro k
  induction k with
  | zero => intro n h h2; omega
  | succ k ih =>
    intro n hk hn ht
    cases h : isAt T n with
    | true => exact ⟨n, h, Nat.le_refl _, by rw [Nat.sub_self]; exact S.zero⟩
    | false =>
      have : ∃ a, a < n ∧ 0 < a ∧ T a = true ∧ T (n - a) = true := by
        refine Classical.byContradiction fun z => ?_
        have : isAt T n = true := isAt_iff.mpr ⟨hn, ht, fun a h1 h2 h3 => by
          cases h4 : T (n - a) with
          | false => rfl
          | true => exact absurd ⟨a, h1, h2, h3, h4⟩ z⟩
        rw [h] at this; cases this
      obtain ⟨a, h1, h2, h3, h4⟩ := this
      obtain ⟨c, h5, h6, h7⟩ := ih a (by omega) h2 h3
      refine ⟨c, h5, by omega, ?_⟩
      have := S.add _ _ h7 h4
      rwa [show a - c + (n - a) = n - c by omega] at this
/-- the test by the coins found so far -/
theorem at_test {T : Nat → Bool} {N : Nat} (S : Sg T N) {n : Nat} (hn : 0 < n) (ht : T n = true) {l : List Nat} (hl : ∀ c, c ∈ l ↔ isAt T c = true ∧ c < n) : (l.filter fun c => T (n - c)).isEmpty = isAt T n := by
  rw [Bool.eq_iff_iff, List.isEmpty_iff, List.filter_eq_nil_iff]
  constructor
  · intro h
    refine isAt_iff.mpr ⟨hn, ht, fun a h1 h2 h3 => ?_⟩
    cases h4 : T (n - a) with
    | false => rfl
    | true =>
      obtain ⟨c, h5, h6, h7⟩ := at_below S a a (Nat.le_refl _) h2 h3
      have := S.add _ _ h7 h4
      rw [show a - c + (n - a) = n - c by omega] at this
      exact absurd this (h c ((hl c).mpr ⟨h5, by omega⟩))
  · intro h c hc h2
    obtain ⟨h3, h4⟩ := (hl c).mp hc
    obtain ⟨h5, h6, _⟩ := isAt_iff.mp h3
    rw [(isAt_iff.mp h).2.2 c h4 h5 h6] at h2; cases h2
/-- the coins below b -/
def atoms (T : Nat → Bool) (b : Nat) : List Nat := (List.range b).filter (isAt T)
theorem mem_atoms {T : Nat → Bool} {b n : Nat} : n ∈ atoms T b ↔ isAt T n = true ∧ n < b := by
  unfold atoms; rw [List.mem_filter, List.mem_range, and_comm]
theorem atoms_asc (T : Nat → Bool) (b : Nat) : (atoms T b).Pairwise (· < ·) := List.Pairwise.sublist List.filter_sublist List.pairwise_lt_range
theorem atoms_succ (T : Nat → Bool) (b : Nat) : atoms T (b + 1) = if isAt T b then atoms T b ++ [b] else atoms T b := by
  unfold atoms
  rw [List.range_succ, List.filter_append]
  cases h : isAt T b with
  | true => rw [if_pos rfl]; simp [h]
  | false => rw [if_neg (by simp)]; simp [h]
theorem atoms_len (T : Nat → Bool) (b : Nat) : (atoms T b).length ≤ b := by
  have := List.length_filter_le (isAt T) (List.range b)
  rwa [List.length_range] at this
theorem isAt_congr {T U : Nat → Bool} {b : Nat} (h : ∀ n, n ≤ b → T n = U n) : isAt T b = isAt U b := by
  rw [Bool.eq_iff_iff, isAt_iff, isAt_iff, h b (Nat.le_refl _)]
  refine and_congr_right fun _ => and_congr_right fun _ => ?_
  constructor
  · intro z a h1 h2 h3; rw [← h (n := b - a) (by omega)]; exact z a h1 h2 (by rw [h a (by omega)]; exact h3)
  · intro z a h1 h2 h3; rw [h (b - a) (by omega)]; exact z a h1 h2 (by rw [← h a (by omega)]; exact h3)
theorem at_far {T : Nat → Bool} {m n : Nat} (h : isAt T n = true) (hm : T m = true) (h0 : 0 < m) : n ≤ m ∨ T (n - m) = false := by
  rcases Nat.lt_or_ge m n with z | z
  · exact .inr ((isAt_iff.mp h).2.2 m z h0 hm)
  · exact .inl z
theorem atoms_cut {T : Nat → Bool} {b b' : Nat} (h : ∀ n, isAt T n = true → n < b) (hb : b ≤ b') : atoms T b' = atoms T b :=
  asc_ext (atoms_asc _ _) (atoms_asc _ _) fun n => by
    rw [mem_atoms, mem_atoms]
    exact ⟨fun ⟨h1, _⟩ => ⟨h1, h n h1⟩, fun ⟨h1, h2⟩ => ⟨h1, by omega⟩⟩
theorem atoms_ne {T : Nat → Bool} {N b : Nat} (S : Sg T N) (hb : N + 1 < b) : atoms T b ≠ [] := by
  obtain ⟨c, h1, h2, _⟩ := at_below S (N + 1) (N + 1) (Nat.le_refl _) (by omega) (S.far _ (by omega))
  exact List.ne_nil_of_mem (mem_atoms.mpr ⟨h1, by omega⟩)
/-- a table of sums -/
def tabT (T : Nat → Bool) (b : Nat) : List D := (List.range b).map fun k => .bl (T k)
theorem tabT_len (T : Nat → Bool) (b : Nat) : (tabT T b).length = b := by unfold tabT; rw [List.length_map, List.length_range]
theorem tabT_ix {T : Nat → Bool} {b k : Nat} (h : k < b) : gIx (.lst (tabT T b)) (dI k) = .ok (.bl (T k)) := by
  show ofO (atI (tabT T b) ((k : Nat) : Int)) = _
  rw [atI_nat (v := .bl (T k)) (by unfold tabT; rw [List.getElem?_map, List.getElem?_range h]; rfl)]
  rfl
/-! ### the least purse of sums -/
def climb (T : Nat → Bool) (m : Nat) : Nat → Nat → Nat
  | 0, n => n
  | k + 1, n => if T n then n else climb T m k (n + m)
theorem climb_spec {T : Nat → Bool} {N m : Nat} (S : Sg T N) (hm : 0 < m) : ∀ k n, N ≤ n + k * m → T (climb T m k n) = true ∧ n ≤ climb T m k n ∧ climb T m k n % m = n % m ∧ (∀ x, n ≤ x → x % m = n % m → T x = true → climb T m k n ≤ x) := by
  intro k
  induction k with
  | zero => intro n h; exact ⟨S.far n (by omega), Nat.le_refl _, rfl, fun x h1 _ _ => h1⟩
  | succ k ih =>
    intro n h
    unfold climb
    cases ht : T n with
    | true => rw [if_pos rfl]; exact ⟨ht, Nat.le_refl _, rfl, fun x h1 _ _ => h1⟩
    | false =>
      rw [if_neg (by simp)]
      obtain ⟨h1, h2, h3, h4⟩ := ih (n + m) (by rw [Nat.succ_mul] at h; omega)
      refine ⟨h1, by omega, by rw [h3, Nat.add_mod_right], fun x hx hxm hxt => h4 x ?_ (by rw [hxm, Nat.add_mod_right]) hxt⟩
      rcases Nat.lt_or_ge x (n + m) with z | z
      · have h5 : x = n := by
          have e1 := Nat.div_add_mod x m
          have e2 := Nat.div_add_mod n m
          have : x / m = n / m := by
            rcases Nat.lt_trichotomy (x / m) (n / m) with w | w | w
            · have := Nat.mul_le_mul_left m (show x / m + 1 ≤ n / m from w)
              rw [Nat.mul_add] at this; omega
            · exact w
            · have := Nat.mul_le_mul_left m (show n / m + 1 ≤ x / m from w)
              rw [Nat.mul_add] at this; omega
          rw [this, hxm] at e1; omega
        rw [h5, ht] at hxt; cases hxt
      · exact z
/-- the least sums of each rest by m, nought's being m -/
def lows (T : Nat → Bool) (m K : Nat) : List Nat := m :: (List.range' 1 (m - 1)).map (climb T m K)
theorem lows_len {T : Nat → Bool} {m K : Nat} (h : 0 < m) : (lows T m K).length = m := by
  unfold lows; rw [List.length_cons, List.length_map, List.length_range']; omega
theorem mem_lows {T : Nat → Bool} {m K x : Nat} : x ∈ lows T m K ↔ x = m ∨ ∃ r, 1 ≤ r ∧ r < m ∧ climb T m K r = x := by
  unfold lows
  rw [List.mem_cons, List.mem_map]
  refine or_congr_right ⟨fun ⟨r, h1, h2⟩ => ?_, fun ⟨r, h1, h2, h3⟩ => ⟨r, ?_, h3⟩⟩
  · rw [List.mem_range'_1] at h1; exact ⟨r, by omega, by omega, h2⟩
  · rw [List.mem_range'_1]; omega
section
variable {T : Nat → Bool} {N m K : Nat}
theorem lows_made (S : Sg T N) (hm : 0 < m) (hT : T m = true) (hK : N ≤ K) {x : Nat} (hx : x ∈ lows T m K) : 0 < x ∧ T x = true := by
  rcases mem_lows.mp hx with rfl | ⟨r, h1, h2, rfl⟩
  · exact ⟨hm, hT⟩
  · obtain ⟨h3, h4, _, _⟩ := climb_spec S hm K r (by have := Nat.mul_le_mul_left K hm; omega)
    exact ⟨by omega, h3⟩
theorem lows_nodup (S : Sg T N) (hm : 0 < m) (hK : N ≤ K) : (lows T m K).Nodup := by
  have hk : ∀ r, N ≤ r + K * m := fun r => by have := Nat.mul_le_mul_left K hm; omega
  unfold lows
  refine List.nodup_cons.mpr ⟨fun h => ?_, ?_⟩
  · obtain ⟨r, h1, h2⟩ := List.mem_map.mp h
    rw [List.mem_range'_1] at h1
    obtain ⟨_, _, h3, _⟩ := climb_spec S hm K r (hk r)
    rw [h2, Nat.mod_self, Nat.mod_eq_of_lt (by omega)] at h3; omega
  · rw [List.Nodup, List.pairwise_map]
    refine List.Pairwise.imp_of_mem (R := (· < ·)) (fun {a b} ha hb hab e => ?_) List.pairwise_lt_range'
    rw [List.mem_range'_1] at ha hb
    have h3 := (climb_spec S hm K a (hk a)).2.2.1
    have h4 := (climb_spec S hm K b (hk b)).2.2.1
    rw [e, h4, Nat.mod_eq_of_lt (by omega), Nat.mod_eq_of_lt (by omega)] at h3; omega
/-- each coin is among them -/
theorem at_lows (S : Sg T N) (hm : 0 < m) (hT : T m = true) (hmin : ∀ k, 0 < k → k < m → T k = false) (hK : N ≤ K) {n : Nat} (h : isAt T n = true) : n ∈ lows T m K := by
  obtain ⟨h0, ht, hno⟩ := isAt_iff.mp h
  have hmult : ∀ j, T (j * m) = true := fun j => by
    induction j with
    | zero => rw [Nat.zero_mul]; exact S.zero
    | succ j ih => rw [Nat.succ_mul]; exact S.add _ _ ih hT
  have hge : m ≤ n := by
    rcases Nat.lt_or_ge n m with z | z
    · rw [hmin n h0 z] at ht; cases ht
    · exact z
  rw [mem_lows]
  rcases Nat.eq_zero_or_pos (n % m) with z | z
  · refine .inl ?_
    obtain ⟨j, e⟩ := Nat.dvd_of_mod_eq_zero z
    rcases Nat.lt_or_ge m n with w | w
    · have hj : 1 ≤ j := by
        rcases Nat.eq_zero_or_pos j with e0 | e0
        · rw [e0, Nat.mul_zero] at e; omega
        · exact e0
      have := hno m w hm hT
      rw [e, Nat.mul_comm, show j * m - m = (j - 1) * m by rw [Nat.sub_mul, Nat.one_mul], hmult] at this
      cases this
    · omega
  · refine .inr ⟨n % m, z, Nat.mod_lt _ hm, ?_⟩
    obtain ⟨h3, h4, h5, h6⟩ := climb_spec S hm K (n % m) (by have := Nat.mul_le_mul_left K hm; omega)
    have hle := h6 n (Nat.mod_le _ _) (by rw [Nat.mod_mod]) ht
    rcases Nat.eq_or_lt_of_le hle with e | e
    · exact e
    · exfalso
      have hd : m ∣ n - climb T m K (n % m) := Nat.dvd_of_mod_eq_zero (Nat.sub_mod_eq_zero_of_mod_eq (by rw [h5, Nat.mod_mod]))
      obtain ⟨j, ej⟩ := hd
      have h7 := hno (n - climb T m K (n % m)) (by omega) (by omega) (by rw [ej, Nat.mul_comm]; exact hmult j)
      rw [show n - (n - climb T m K (n % m)) = climb T m K (n % m) by omega, h3] at h7
      cases h7
end
section
variable {T : Nat → Bool} {N m K : Nat} {t : Nat} {ds : List D}
theorem has_s (hT : ∀ n : Nat, lamT t (dI n :: ds) = .rt (.bl (T n))) {e : Ee} {r : Env} {n : Nat} (h0 : r[0]? = some (.imm (.fn t ds))) (he : e r = .ok (dI n)) : eHas lamT 0 (aCons e aNil) r = .ok (.bl (T n)) := by
  unfold eHas
  rw [h0]
  show (aCons e aNil r).bind _ = _
  rw [aCons_s, he]
  show roE (lamT t (dI n :: ds)) = _
  rw [hT]; rfl
theorem ixl_0 (c : Nat) (cs : List Nat) : gIx (.lst (dN (c :: cs))) (.int 0) = .ok (dI c) := by
  show ofO (atI (dN (c :: cs)) ((0 : Nat) : Int)) = _
  rw [atI_nat (v := dI c) rfl]; rfl
theorem climb_run (hT : ∀ n : Nat, lamT t (dI n :: ds) = .rt (.bl (T n))) {tl : List Nat} {x3 x4 x5 x6 : SV} : ∀ (k n : Nat), T (climb T m k n) = true →
    whGo (tNot (tOf (eHas lamT 0 (aCons (vI 2) aNil)))) o_purse_of0 (k + 1) [.imm (.fn t ds), .imm (.lst (dN (m :: tl))), .imm (dI n), x3, x4, x5, x6] = .nx [.imm (.fn t ds), .imm (.lst (dN (m :: tl))), .imm (dI (climb T m k n)), x3, x4, x5, x6] := by
  have ht : ∀ n, tNot (tOf (eHas lamT 0 (aCons (vI 2) aNil))) [.imm (.fn t ds), .imm (.lst (dN (m :: tl))), .imm (dI n), x3, x4, x5, x6] = .ok (!T n) := fun n => by
    rw [tNot_s, tOf_s, has_s hT rfl (n := n) rfl]; rfl
  intro k
  induction k with
  | zero => intro n h; exact wh_end ((ht n).trans (by rw [show T n = true from h]; rfl))
  | succ k ih =>
    intro n h
    unfold climb at h ⊢
    cases e : T n with
    | true => rw [if_pos rfl]; exact wh_end ((ht n).trans (by rw [e]; rfl))
    | false =>
      rw [e, if_neg (by simp)] at h
      rw [if_neg (by simp)]
      refine (wh_go ((ht n).trans (by rw [e]; rfl)) ?_).trans (ih (n + m) h)
      rw [o_purse_of0_s]
      have := ixl_0 m tl
      simp [sAug, this]
theorem lows_turn (S : Sg T N) (hm : 0 < m) (hm4 : m ≤ 400) (hN : N ≤ 200000) (hT : ∀ n : Nat, lamT t (dI n :: ds) = .rt (.bl (T n))) {tl acc : List Nat} {x2 x5 x6 : SV} {r : Nat} (hl : acc.length ≤ 90000) :
    o_purse_of1 [.imm (.fn t ds), .imm (.lst (dN (m :: tl))), x2, .own (dN acc), .imm (dI r), x5, x6] = .nx [.imm (.fn t ds), .imm (.lst (dN (m :: tl))), .imm (dI (climb T m N r)), .own (dN (acc ++ [climb T m N r])), .imm (dI r), x5, x6] := by
  rw [o_purse_of1_s]
  have h1 := (climb_spec S hm N r (by have := Nat.mul_le_mul_left N hm; omega)).1
  refine (q_set (dI r) rfl).trans ?_
  refine (q_wh (N + 1) (climb_run hT N r h1) (by unfold fuel; omega)).trans ?_
  rw [sApp_s]
  show capS (dN acc).length _ = _
  rw [capS_ok (by rw [dN_len]; omega)]
  show So.nx [_, _, _, .own (dN acc ++ [dI _]), _, _, _] = _
  unfold dN; rw [List.map_append]; rfl
theorem lows_loop (S : Sg T N) (hm : 0 < m) (hm4 : m ≤ 400) (hN : N ≤ 200000) (hT : ∀ n : Nat, lamT t (dI n :: ds) = .rt (.bl (T n))) {tl : List Nat} {x5 x6 : SV} : ∀ (k r : Nat) (acc : List Nat) (x2 x4 : SV), acc.length + k ≤ 90000 →
    ∃ y2 y4, forGo (gNm 4) o_purse_of1 ((List.range' r k).map dI) [.imm (.fn t ds), .imm (.lst (dN (m :: tl))), x2, .own (dN acc), x4, x5, x6] = .nx [.imm (.fn t ds), .imm (.lst (dN (m :: tl))), y2, .own (dN (acc ++ (List.range' r k).map (climb T m N))), y4, x5, x6] := by
  intro k
  induction k with
  | zero => intro r acc x2 x4 _; exact ⟨x2, x4, by show _ = So.nx [_, _, _, .own (dN (acc ++ [])), _, _, _]; rw [List.append_nil]; rfl⟩
  | succ k ih =>
    intro r acc x2 x4 h
    obtain ⟨y2, y4, e⟩ := ih (r + 1) (acc ++ [climb T m N r]) (.imm (dI (climb T m N r))) (.imm (dI r)) (by rw [List.length_append]; show acc.length + 1 + k ≤ _; omega)
    refine ⟨y2, y4, ?_⟩
    rw [List.range'_succ, List.map_cons, for_nx (gNm_s _ _ _) (lows_turn S hm hm4 hN hT (by omega)), List.map_cons]
    rw [List.append_assoc] at e
    exact e
theorem pick_turn (S : Sg T N) (hT : ∀ n : Nat, lamT t (dI n :: ds) = .rt (.bl (T n))) {found : List Nat} {x1 x3 x4 x6 : SV} {n : Nat} (hn : 0 < n) (ht : T n = true) (hl : found.length ≤ 90000)
    (hf : ∀ c, c ∈ found ↔ isAt T c = true ∧ c < n) :
    o_purse_of2 [.imm (.fn t ds), x1, .imm (dI n), x3, x4, .own (dN found), x6] = .nx [.imm (.fn t ds), x1, .imm (dI n), x3, x4, .own (dN (if isAt T n then found ++ [n] else found)), x6] := by
  rw [o_purse_of2_s]
  have hc : nComp (iS (vO 5)) (gNm 6) [6] (tOf (eHas lamT 0 (aCons (op2 gSub (vI 2) (vI 6)) aNil))) (vI 6) [.imm (.fn t ds), x1, .imm (dI n), x3, x4, .own (dN found), x6] = .ok (dN (found.filter fun c => T (n - c))) := by
    refine comp_keep (F := dI) (i := 6) (keep := fun c => T (n - c)) rfl (by omega) fun c hc => ⟨?_, fun _ => rfl⟩
    have hcn := ((hf c).mp hc).2
    have := has_s hT (e := op2 gSub (vI 2) (vI 6)) (r := [.imm (.fn t ds), x1, .imm (dI n), x3, x4, .own (dN found), .imm (dI c)]) (n := n - c) rfl (sub_ok (by omega))
    show (eHas lamT 0 (aCons (op2 gSub (vI 2) (vI 6)) aNil) [.imm (.fn t ds), x1, .imm (dI n), x3, x4, .own (dN found), .imm (dI c)]).bind truth = _
    rw [this]; rfl
  have ht2 := at_test S hn ht hf
  have s1 : tNot (tOf (toE (nComp (iS (vO 5)) (gNm 6) [6] (tOf (eHas lamT 0 (aCons (op2 gSub (vI 2) (vI 6)) aNil))) (vI 6)))) [.imm (.fn t ds), x1, .imm (dI n), x3, x4, .own (dN found), x6] = .ok (isAt T n) := by
    rw [tNot_s, tOf_s, toE_s, hc, Rs.map_ok, Rs.bind_ok, truth_l, Rs.map_ok, Bool.not_not, ← ht2]
    unfold dN; rw [List.isEmpty_map]
  rw [sIf_s, s1, liftS_ok]
  cases isAt T n with
  | false => rfl
  | true =>
    rw [if_pos rfl, if_pos rfl, sApp_s]
    show capS (dN found).length _ = _
    rw [capS_ok (by rw [dN_len]; omega)]
    show So.nx [_, _, _, _, _, .own (dN found ++ [dI n]), _] = _
    unfold dN; rw [List.map_append]; rfl
theorem pick_loop (S : Sg T N) (hT : ∀ n : Nat, lamT t (dI n :: ds) = .rt (.bl (T n))) {x1 x3 x4 x6 : SV} : ∀ (rest done : List Nat) (x2 : SV), (done ++ rest).Pairwise (· < ·) → (∀ x ∈ rest, 0 < x ∧ T x = true) → (∀ c, isAt T c = true → c ∈ done ++ rest) → done.length + rest.length ≤ 90000 →
    ∃ y2, forGo (gNm 2) o_purse_of2 (dN rest) [.imm (.fn t ds), x1, x2, x3, x4, .own (dN (done.filter (isAt T))), x6] = .nx [.imm (.fn t ds), x1, y2, x3, x4, .own (dN ((done ++ rest).filter (isAt T))), x6] := by
  intro rest
  induction rest with
  | nil => intro done x2 _ _ _ _; exact ⟨x2, by rw [List.append_nil]; rfl⟩
  | cons n rest ih =>
    intro done x2 hasc hpos hat hl
    obtain ⟨h0, ht⟩ := hpos n List.mem_cons_self
    have hp := List.pairwise_append.mp hasc
    have hr := (List.pairwise_cons.mp hp.2.1).1
    have hf : ∀ c, c ∈ done.filter (isAt T) ↔ isAt T c = true ∧ c < n := fun c => by
      rw [List.mem_filter]
      refine ⟨fun ⟨h1, h2⟩ => ⟨h2, hp.2.2 c h1 n List.mem_cons_self⟩, fun ⟨h1, h2⟩ => ⟨?_, h1⟩⟩
      rcases List.mem_append.mp (hat c h1) with z | z
      · exact z
      · rcases List.mem_cons.mp z with z | z
        · omega
        · have := hr c z; omega
    have hfl := List.length_filter_le (isAt T) done
    rw [List.length_cons] at hl
    have e1 := pick_turn S hT (x1 := x1) (x3 := x3) (x4 := x4) (x6 := x6) h0 ht (by omega) hf
    obtain ⟨y2, e2⟩ := ih (done ++ [n]) (.imm (dI n)) (by rw [List.append_assoc]; exact hasc) (fun x hx => hpos x (List.mem_cons_of_mem _ hx)) (by rw [List.append_assoc]; exact hat) (by rw [List.length_append]; show done.length + 1 + _ ≤ _; omega)
    refine ⟨y2, ?_⟩
    show forGo (gNm 2) o_purse_of2 (dI n :: dN rest) _ = _
    rw [for_nx (gNm_s _ _ _) e1]
    rw [List.append_assoc, List.filter_append] at e2
    rw [show (if isAt T n = true then done.filter (isAt T) ++ [n] else done.filter (isAt T)) = done.filter (isAt T) ++ [n].filter (isAt T) by cases h : isAt T n <;> simp [h]]
    exact e2
theorem has_comp (hT : ∀ n : Nat, lamT t (dI n :: ds) = .rt (.bl (T n))) {x1 x2 x3 x4 x5 x6 : SV} : nComp (iR2 (cst (.int 1)) (op2 gAdd (cst (.int 400)) (cst (.int 1)))) (gNm 2) [2] (tOf (eHas lamT 0 (aCons (vI 2) aNil))) (vI 2) [.imm (.fn t ds), x1, x2, x3, x4, x5, x6] = .ok (dN ((List.range' 1 400).filter T)) := by
  have hs : iR2 (cst (.int 1)) (op2 gAdd (cst (.int 400)) (cst (.int 1))) [.imm (.fn t ds), x1, x2, x3, x4, x5, x6] = .ok (dN (List.range' 1 400)) := by
    rw [iR2_i (i := 1) (j := 401) rfl rfl (by unfold big62; omega)]
    exact congrArg Rs.ok (rng_r' 1 400)
  refine comp_keep (F := dI) hs (by rw [List.length_range']; omega) fun c hc => ⟨?_, fun _ => rfl⟩
  rw [tOf_s, has_s hT rfl (n := c) rfl]; rfl
theorem purse_of_none (hT : ∀ n : Nat, lamT t (dI n :: ds) = .rt (.bl (T n))) (h : ∀ n, 0 < n → n ≤ 400 → T n = false) : f_purse_of [.fn t ds] = .ex "TooBig" := by
  have e := has_comp hT (x1 := .no) (x2 := .no) (x3 := .no) (x4 := .no) (x5 := .no) (x6 := .no)
  rw [List.filter_eq_nil_iff.mpr fun n hn => by rw [List.mem_range'_1] at hn; rw [h n (by omega) (by omega)]; simp] at e
  refine run_ex (q := [.imm (.fn t ds), .imm (.lst []), .no, .no, .no, .no, .no]) rfl ?_
  unfold b_purse_of
  refine (q_set (.lst []) (by rw [toE_s]; exact congrArg (Rs.map D.lst) e)).trans ?_
  exact (q_yes rfl).trans rfl
theorem purse_of_ok (hT : ∀ n : Nat, lamT t (dI n :: ds) = .rt (.bl (T n))) (S : Sg T N) (hN : N ≤ 200000) (hm : 0 < m) (hm4 : m ≤ 400) (hTm : T m = true) (hmin : ∀ k, 0 < k → k < m → T k = false) {b : Nat} (hb : ∀ n, isAt T n = true → n < b) :
    f_purse_of [.fn t ds] = if fitsB (atoms T b) then .rt (.tup (dN (atoms T b))) else .ex "TooBig" := by
  have e := has_comp hT (x1 := .no) (x2 := .no) (x3 := .no) (x4 := .no) (x5 := .no) (x6 := .no)
  obtain ⟨tl, hs⟩ : ∃ tl, (List.range' 1 400).filter T = m :: tl := by
    rw [show 400 = (m - 1) + ((400 - m) + 1) by omega, ← List.range'_append_1, List.filter_append, List.filter_eq_nil_iff.mpr fun n hn => by rw [List.mem_range'_1] at hn; rw [hmin n (by omega) (by omega)]; simp, List.nil_append, show 1 + (m - 1) = m by omega, List.range'_succ, List.filter_cons, if_pos hTm]
    exact ⟨_, rfl⟩
  rw [hs] at e
  have hix : gIx (.lst (dN (m :: tl))) (.int 0) = .ok (dI m) := ixl_0 m tl
  obtain ⟨y2, y4, e1⟩ := lows_loop S hm hm4 hN hT (tl := tl) (x5 := .no) (x6 := .no) (m - 1) 1 [m] .no .no (by show 1 + _ ≤ _; omega)
  have elow : [m] ++ (List.range' 1 (m - 1)).map (climb T m N) = lows T m N := rfl
  rw [elow] at e1
  have hlen : (lows T m N).length = m := lows_len hm
  have hsl := sortN_len (lows T m N)
  obtain ⟨y2', e2⟩ := pick_loop S hT (x1 := .imm (.lst (dN (m :: tl)))) (x3 := .own (dN (lows T m N))) (x4 := y4) (x6 := .no) (sortN (lows T m N)) [] y2 (sortN_asc (lows_nodup S hm (Nat.le_refl _))) (fun x hx => lows_made S hm hTm (Nat.le_refl _) (mem_sortN.mp hx)) (fun c hc => mem_sortN.mpr (at_lows S hm hTm hmin (Nat.le_refl _) hc)) (by show 0 + _ ≤ _; omega)
  have eat : (sortN (lows T m N)).filter (isAt T) = atoms T b := asc_ext (List.Pairwise.sublist List.filter_sublist (sortN_asc (lows_nodup S hm (Nat.le_refl _)))) (atoms_asc _ _) fun n => by
    rw [List.mem_filter, mem_atoms, mem_sortN]
    exact ⟨fun ⟨_, h⟩ => ⟨h, hb n h⟩, fun ⟨h, _⟩ => ⟨at_lows S hm hTm hmin (Nat.le_refl _) h, h⟩⟩
  have e2 : forGo (gNm 2) o_purse_of2 (dN (sortN (lows T m N))) [.imm (.fn t ds), .imm (.lst (dN (m :: tl))), y2, .own (dN (lows T m N)), y4, .own [], .no] = .nx [.imm (.fn t ds), .imm (.lst (dN (m :: tl))), y2', .own (dN (lows T m N)), y4, .own (dN ((sortN (lows T m N)).filter (isAt T))), .no] := e2
  rw [eat] at e2
  have hne : atoms T b ≠ [] := by
    obtain ⟨c, h1, h2, _⟩ := at_below S m m (Nat.le_refl _) hm hTm
    exact List.ne_nil_of_mem (mem_atoms.mpr ⟨h1, hb c h1⟩)
  have ea := as_purse_ok hne
  have run : ∀ o, (sRet (eCall f_as_purse (aCons (vO 5) aNil))) [.imm (.fn t ds), .imm (.lst (dN (m :: tl))), y2', .own (dN (lows T m N)), y4, .own (dN (atoms T b)), .no] = o → b_purse_of (startE 7 [.fn t ds]) = o := by
    intro o ho
    unfold b_purse_of
    refine (q_set (.lst (dN (m :: tl))) (by rw [toE_s]; exact congrArg (Rs.map D.lst) e)).trans ?_
    refine (q_no rfl).trans ?_
    refine (q_setN (dN [m]) (by simp [startE, hix]; rfl)).trans ?_
    refine (q_for ((List.range' 1 (m - 1)).map dI) ?_ e1).trans ?_
    · rw [iR2_i (i := 1) (j := (m : Int)) rfl (by exact hix) (by unfold big62; omega), show ((m : Int) - 1).toNat = m - 1 by omega]
      exact congrArg Rs.ok (rng_r' 1 (m - 1))
    refine (q_setN [] rfl).trans ?_
    refine (q_for (dN (sortN (lows T m N))) ?_ e2).trans ho
    exact sort_ok (by unfold lim; omega)
  by_cases hf : fitsB (atoms T b) = true
  · rw [if_pos hf] at ea ⊢
    exact run_rt rfl (run _ (q_ret _ (by show (roE (f_as_purse [.lst (dN (atoms T b))])) = _; rw [ea]; rfl))) (by show noLs _ = true; exact noLs_dN _)
  · rw [if_neg hf] at ea ⊢
    exact run_ex rfl (run (.ex "TooBig" _) (by rw [sRet_s]; show liftS _ (roE (f_as_purse [.lst (dN (atoms T b))])) _ = _; rw [ea]; rfl))
end
end GP

/-! GPx: what coins make, as sums; purses that lambdas tell. LAM_x stands for the number of x's lambda (prep.py). -/
namespace GP
open GM
theorem noFns_map {α : Type} {F : α → D} (h : ∀ x, noFn (F x) = true) : ∀ xs : List α, noFns (xs.map F) = true
  | [] => rfl
  | x :: r => by show (noFn (F x) && noFns (r.map F)) = true; rw [h x, noFns_map h r]; rfl
theorem noFns_dN (cs : List Nat) : noFns (dN cs) = true := noFns_map (fun _ => rfl) cs
theorem noFn_tN (cs : List Nat) : noFn (.tup (dN cs)) = true := noFns_dN cs
theorem noFn_lN (cs : List Nat) : noFn (.lst (dN cs)) = true := noFns_dN cs
/-- the least one -/
theorem least_of {T : Nat → Bool} : ∀ k n, n ≤ k → 0 < n → T n = true → ∃ m, 0 < m ∧ m ≤ n ∧ T m = true ∧ ∀ j, 0 < j → j < m → T j = false := by
  intro k
  induction k with
  | zero => intro n h h2; omega
  | succ k ih =>
    intro n h h0 ht
    by_cases hx : ∃ j, 0 < j ∧ j < n ∧ T j = true
    · obtain ⟨j, h1, h2, h3⟩ := hx
      obtain ⟨m, h4, h5, h6⟩ := ih j (by omega) h1 h3
      exact ⟨m, h4, by omega, h6⟩
    · exact ⟨n, h0, Nat.le_refl _, ht, fun j h1 h2 => by
        cases h3 : T j with
        | false => rfl
        | true => exact absurd ⟨j, h1, h2, h3⟩ hx⟩
theorem Sg.mono {T : Nat → Bool} {N M : Nat} (S : Sg T N) (h : N ≤ M) : Sg T M := ⟨S.zero, S.add, fun n hn => S.far n (by omega)⟩
theorem sg_both {T U : Nat → Bool} {N : Nat} (S : Sg T N) (R : Sg U N) : Sg (fun n => T n && U n) N where
  zero := by rw [S.zero, R.zero]; rfl
  add := fun a b h1 h2 => by
    rw [Bool.and_eq_true] at h1 h2 ⊢
    exact ⟨S.add a b h1.1 h2.1, R.add a b h1.2 h2.2⟩
  far := fun n h => by rw [S.far n h, R.far n h]; rfl
theorem sg_div {T : Nat → Bool} {N d : Nat} (S : Sg T N) (hd : 0 < d) : Sg (fun n => T (n * d)) N where
  zero := by show T (0 * d) = true; rw [Nat.zero_mul]; exact S.zero
  add := fun a b h1 h2 => by show T ((a + b) * d) = true; rw [Nat.add_mul]; exact S.add _ _ h1 h2
  far := fun n h => S.far _ (by have := Nat.mul_le_mul_left n hd; omega)
theorem sg_more {T : Nat → Bool} {N F : Nat} (S : Sg T N) (hF : ∀ n, F < n → T n = true) (h0 : 0 < F) : Sg (fun n => n == F || T n) N where
  zero := by show (0 == F || T 0) = true; rw [S.zero, Bool.or_true]
  add := fun a b h1 h2 => by
    rw [Bool.or_eq_true, beq_iff_eq] at h1 h2 ⊢
    rcases Nat.eq_zero_or_pos a with ha | ha
    · rw [ha, Nat.zero_add]; exact h2
    · rcases Nat.eq_zero_or_pos b with hb | hb
      · rw [hb, Nat.add_zero]; exact h1
      · refine .inr ?_
        rcases h1 with h1 | h1
        · exact hF _ (by omega)
        · rcases h2 with h2 | h2
          · exact hF _ (by omega)
          · exact S.add _ _ h1 h2
  far := fun n h => by show (n == F || T n) = true; rw [S.far n h, Bool.or_true]
theorem sg_less {T : Nat → Bool} {N c : Nat} (S : Sg T N) (hc : isAt T c = true) : Sg (fun n => n != c && T n) (max N (c + 1)) where
  zero := by
    have := (isAt_iff.mp hc).1
    show (0 != c && T 0) = true
    rw [S.zero, Bool.and_true, bne_iff_ne]; omega
  add := fun a b h1 h2 => by
    rw [Bool.and_eq_true, bne_iff_ne] at h1 h2 ⊢
    refine ⟨fun e => ?_, S.add _ _ h1.2 h2.2⟩
    rcases Nat.eq_zero_or_pos a with ha | ha
    · rw [ha, Nat.zero_add] at e; exact h2.1 e
    · rcases Nat.eq_zero_or_pos b with hb | hb
      · rw [hb, Nat.add_zero] at e; exact h1.1 e
      · have := (isAt_iff.mp hc).2.2 a (by omega) ha h1.2
        rw [show c - a = b by omega, h2.2] at this; cases this
  far := fun n h => by
    have h1 := Nat.le_max_left N (c + 1)
    have h2 := Nat.le_max_right N (c + 1)
    show (n != c && T n) = true
    rw [S.far n (by omega), Bool.and_true, bne_iff_ne]; omega
/-- the coins make just the sums -/
theorem atoms_make {T : Nat → Bool} {N b : Nat} (S : Sg T N) (hb : ∀ n, isAt T n = true → n < b) : ∀ n, mkB (atoms T b) n = T n := by
  have h1 : ∀ k n, n ≤ k → T n = true → Mk (atoms T b) n := by
    intro k
    induction k with
    | zero => intro n h _; rw [show n = 0 by omega]; exact .zero
    | succ k ih =>
      intro n h ht
      rcases Nat.eq_zero_or_pos n with z | z
      · rw [z]; exact .zero
      · obtain ⟨c, h2, h3, h4⟩ := at_below S n n (Nat.le_refl _) z ht
        have hc0 := (isAt_iff.mp h2).1
        exact (Mk.step z).mpr ⟨c, mem_atoms.mpr ⟨h2, hb c h2⟩, h3, ih _ (by omega) h4⟩
  have h2 : ∀ n, Mk (atoms T b) n → T n = true := by
    intro n h
    induction h with
    | zero => exact S.zero
    | add hc _ ih => exact S.add _ _ ih (isAt_iff.mp (mem_atoms.mp hc).1).2.1
  intro n
  rw [Bool.eq_iff_iff, mkB_iff]
  exact ⟨h2 n, h1 n n (Nat.le_refl _)⟩
/-- the coins of what coins make: those that are kept -/
theorem atoms_mk {cs : List Nat} (asc : cs.Pairwise (· < ·)) (pos : ∀ c ∈ cs, 1 ≤ c) {b : Nat} (hb : ∀ c ∈ cs, c < b) : atoms (mkB cs) b = keeps cs := by
  have hk : (keeps cs).Pairwise (· < ·) := List.Pairwise.sublist List.filter_sublist asc
  refine asc_ext (atoms_asc _ _) hk fun n => ?_
  rw [mem_atoms, mem_keeps]
  constructor
  · intro ⟨h, _⟩
    obtain ⟨h0, h1, h2⟩ := isAt_iff.mp h
    obtain ⟨c, hc, hcn, hm⟩ := (Mk.step h0).mp (mkB_iff.mp h1)
    have hc1 := pos c hc
    have hcs : c = n := by
      rcases Nat.lt_or_ge c n with z | z
      · have := h2 c z hc1 (mkB_iff.mpr (.self hc))
        rw [mkB_iff.mpr hm] at this; cases this
      · omega
    refine ⟨hcs ▸ hc, ?_⟩
    cases h3 : mkB (cs.filter (· < n)) n with
    | false => rfl
    | true =>
      obtain ⟨e, he, hen, hm2⟩ := (Mk.step h0).mp (mkB_iff.mp h3)
      obtain ⟨he1, he2⟩ := List.mem_filter.mp he
      have he2 := of_decide_eq_true he2
      have := h2 e he2 (pos e he1) (mkB_iff.mpr (.self he1))
      rw [mkB_iff.mpr (hm2.sub fun x hx => (List.mem_filter.mp hx).1)] at this; cases this
  · intro ⟨hc, h⟩
    refine ⟨isAt_iff.mpr ⟨pos n hc, mkB_iff.mpr (.self hc), fun a h1 h2 h3 => ?_⟩, hb n hc⟩
    cases h4 : mkB cs (n - a) with
    | false => rfl
    | true =>
      have k1 : Mk (cs.filter (· < n)) a := (mkB_iff.mp h3).upto.sub fun x hx => by
        obtain ⟨z1, z2⟩ := List.mem_filter.mp hx
        exact List.mem_filter.mpr ⟨z1, decide_eq_true (by have := of_decide_eq_true z2; omega)⟩
      have k2 : Mk (cs.filter (· < n)) (n - a) := (mkB_iff.mp h4).upto.sub fun x hx => by
        obtain ⟨z1, z2⟩ := List.mem_filter.mp hx
        exact List.mem_filter.mpr ⟨z1, decide_eq_true (by have := of_decide_eq_true z2; omega)⟩
      have := k1.plus k2
      rw [show a + (n - a) = n by omega] at this
      rw [mkB_iff.mpr this] at h; cases h
theorem sg_of {cs : List Nat} {a m : Nat} {f : List (Option Nat)} (L : Ls cs a m f) (hac : a ∈ cs) (ha : 0 < a) (h1 : gcds cs = 1) : Sg (mkB cs) (m * a) where
  zero := mkB_iff.mpr .zero
  add := fun x y h1 h2 => mkB_iff.mpr ((mkB_iff.mp h1).plus (mkB_iff.mp h2))
  far := fun n h => by rw [ls_far L hac ha h, h1]; exact decide_eq_true (Nat.one_dvd _)
theorem Pe.sg {cs : List Nat} {a m : Nat} (p : Pe cs a m) : Sg (mkB cs) (m * a) := by
  obtain ⟨vs, _, L, _⟩ := least_all p
  exact sg_of L p.mem p.a0 p.one
theorem is_made_all {cs : List Nat} {a m : Nat} {vs : List Nat} (L : Ls cs a m (vs.map some)) (p : Pe cs a m) (n : Nat) : f_is_made [.lst (dN vs), dI n] = .rt (.bl (mkB cs n)) := by
  have := is_made_ok L p.mem p.a0 n
  rwa [fD_some] at this
/-- the purse of sums, all of which from 400 on at most are made -/
theorem purse_of_sg {T : Nat → Bool} {N b t : Nat} {ds : List D} (hT : ∀ n : Nat, lamT t (dI n :: ds) = .rt (.bl (T n))) (S : Sg T N) (hN : N ≤ 400) (hb : ∀ n, isAt T n = true → n < b) :
    f_purse_of [.fn t ds] = if fitsB (atoms T b) then .rt (.tup (dN (atoms T b))) else .ex "TooBig" := by
  obtain ⟨m, h1, h2, h3, h4⟩ := least_of (T := T) 400 400 (Nat.le_refl _) (by omega) (S.far _ hN)
  exact purse_of_ok hT S (by omega) h1 h2 h3 h4 hb
theorem lam_call {T : Nat → Bool} {b t : Nat} {ds : List D} {is : List Nat} {r : Env} (hc : capD is r = .ok ds) (h : f_purse_of [.fn t ds] = if fitsB (atoms T b) then .rt (.tup (dN (atoms T b))) else .ex "TooBig") :
    eLamC f_purse_of t is r = if fitsB (atoms T b) then .ok (.tup (dN (atoms T b))) else .ex "TooBig" := by
  unfold eLamC
  rw [hc, Rs.bind_ok, h]
  cases fitsB (atoms T b) with
  | true => show (if noFn (.tup (dN (atoms T b))) = true then _ else _) = _; rw [noFn_tN]; rfl
  | false => rfl
theorem map_dN {cs : List Nat} (F : Nat → Nat) : (cs.map fun c => dI (F c)) = dN (cs.map F) := by unfold dN; rw [List.map_map]; rfl
/-- each coin double -/
theorem twice_pu {cs : List Nat} (pl : Pl cs) : Pu (cs.map (2 * ·)) := by
  have hl5 := pl.len
  refine ⟨by simp [pl.ne], by rw [List.length_map]; omega, ?_, fun c hc => ?_, fun c hc => ?_⟩
  · rw [List.pairwise_map]
    exact pl.asc.imp fun {x y} z => by omega
  · obtain ⟨d, hd, e⟩ := List.mem_map.mp hc
    have := pl.pos d hd
    omega
  · obtain ⟨d, hd, e⟩ := List.mem_map.mp hc
    have := pl.top d hd
    omega
theorem twice_gcd {cs : List Nat} (pl : Pl cs) : 1 < gcds (cs.map (2 * ·)) := by
  have p := twice_pu pl
  have h1 : 2 ∣ gcds (cs.map (2 * ·)) := dvd_gcds.mpr fun c hc => by
    obtain ⟨d, hd, e⟩ := List.mem_map.mp hc
    exact ⟨d, by omega⟩
  rcases Nat.lt_or_ge 1 (gcds (cs.map (2 * ·))) with z | z
  · exact z
  · obtain ⟨c, hc⟩ := List.exists_mem_of_ne_nil _ p.ne
    have h2 := dvd_gcds.mp (Nat.dvd_refl (gcds (cs.map (2 * ·)))) c hc
    have h3 := p.pos c hc
    have h4 := Nat.pos_of_dvd_of_pos h2 h3
    have h5 := Nat.le_of_dvd h4 h1
    omega
/-- the comprehension that doubles -/
theorem twice_comp {cs : List Nat} {r : Env} {i j : Nat} (hr : r[i]? = some (.imm (.tup (dN cs)))) (hij : j ≠ i) (hj : j < r.length) (hl : cs.length ≤ 1000) : nComp (iS (vI i)) (gNm j) [j] tYes (op2 gMul (cst (.int 2)) (vI j)) r = .ok (dN (cs.map (2 * ·))) := by
  have := comp_keep (src := iS (vI i)) (r := r) (cs := cs) (i := j) (t := tYes) (e := op2 gMul (cst (.int 2)) (vI j)) (keep := fun _ => true) (F := fun c => dI (2 * c)) (by rw [iS_s, vI_s, hr]; rfl) (by omega) fun c hc => ⟨rfl, fun _ => by
    have e1 : gMul (.int 2) (dI c) = .ok (dI (2 * c)) := mul_l (by omega) (by omega)
    have e2 : ((r.set j .no).set j (.imm (dI c)))[j]? = some (.imm (dI c)) := by
      rw [List.getElem?_set, if_pos rfl, if_pos (by rw [List.length_set]; exact hj)]
    rw [op2_s, cst_s, Rs.bind_ok, vI_s, e2]
    exact e1⟩
  rw [this, List.filter_eq_self.mpr fun _ _ => rfl, map_dN (2 * ·)]
theorem Pe.last {cs : List Nat} {a m l : Nat} (p : Pe cs a m) (hl : cs.getLast? = some l) : Pe cs a l := ⟨p.pu, p.one, p.hd, fun c hc => by
  obtain ⟨k, el⟩ := List.getLast?_eq_some_iff.mp hl
  rw [el] at hc
  have hasc := p.pu.asc
  rw [el] at hasc
  rcases List.mem_append.mp hc with z | z
  · have := (List.pairwise_append.mp hasc).2.2 c z l (List.mem_singleton.mpr rfl); omega
  · rw [List.mem_singleton.mp z]; exact Nat.le_refl _, p.pu.top l (List.mem_of_getLast? hl)⟩
theorem Pl.near {cs : List Nat} (pl : Pl cs) : ∃ a l, Pe cs a l ∧ a ≤ l ∧ l ≤ 15 ∧ 0 < a ∧ cs.getLast? = some l ∧ Sg (mkB cs) (a * l) ∧ a * l ≤ 225 ∧ 0 < a * l := by
  obtain ⟨a, p⟩ := pl.pe
  obtain ⟨l, hl⟩ : ∃ l, cs.getLast? = some l := ⟨_, List.getLast?_eq_some_getLast pl.ne⟩
  have hlm := List.mem_of_getLast? hl
  have hl1 := pl.top l hlm
  have pL := p.last hl
  have ha := pL.am
  have h0 := p.a0
  have S := pL.sg
  rw [Nat.mul_comm] at S
  have hal : a * l ≤ 15 * 15 := Nat.mul_le_mul (by omega) hl1
  exact ⟨a, l, pL, ha, hl1, h0, hl, S, by omega, Nat.mul_pos h0 (by omega)⟩
/-- the coins are not beyond -/
theorem at_twice {T : Nat → Bool} {N : Nat} (S : Sg T N) (h0 : 0 < N) {n : Nat} (h : isAt T n = true) : n < 2 * N := by
  rcases at_far h (S.far N (Nat.le_refl _)) h0 with z | z
  · omega
  · rcases Nat.lt_or_ge (n - N) N with w | w
    · omega
    · rw [S.far _ w] at z; cases z
section
variable {cs : List Nat} {a m : Nat}
theorem lam_without {vs : List Nat} (L : Ls cs a m (vs.map some)) (p : Pe cs a m) (c n : Nat) : lamT 0 (dI n :: [dI c, .lst (dN vs)]) = .rt (.bl (n != c && mkB cs n)) := by
  have e := is_made_all L p n
  rw [show lamT 0 = lamF 3 e_lam0 from rfl]
  unfold lamF
  rw [if_pos ⟨rfl, by show (true && (true && (noFns (dN vs) && true))) = true; rw [noFns_dN]; rfl⟩]
  have : e_lam0 ((dI n :: [dI c, .lst (dN vs)]).map SV.imm) = .ok (.bl (n != c && mkB cs n)) := by
    unfold e_lam0
    by_cases h : n = c
    · simp [h]
    · have h' : ¬ (n : Int) = (c : Int) := by omega
      simp [h, h', e]
  rw [this]
theorem without_ok (p : Pe cs a m) {c : Nat} (hc : isAt (mkB cs) c = true) {N : Nat} (S : Sg (fun n => n != c && mkB cs n) N) (hN : N ≤ 400) {k : Nat} (hk : ∀ n, isAt (fun n => n != c && mkB cs n) n = true → n < k) :
    f_without [.tup (dN cs), dI c] = if fitsB (atoms (fun n => n != c && mkB cs n) k) then .rt (.tup (dN (atoms (fun n => n != c && mkB cs n) k))) else .ex "TooBig" := by
  obtain ⟨vs, _, L, els⟩ := least_all p
  have e4 := purse_of_sg (lam_without L p c) S hN hk
  have e5 := lam_call (is := [1, 2]) (r := [.imm (.tup (dN cs)), .imm (dI c), .imm (.lst (dN vs))]) rfl e4
  have run : ∀ o, sRet (eLamC f_purse_of 0 [1, 2]) [.imm (.tup (dN cs)), .imm (dI c), .imm (.lst (dN vs))] = o → b_without (startE 3 [.tup (dN cs), dI c]) = o := by
    intro o ho
    unfold b_without
    exact (q_set (.lst (dN vs)) (by simp [startE, els])).trans ho
  generalize atoms (fun n => n != c && mkB cs n) k = due at *
  by_cases hf : fitsB due = true
  · rw [if_pos hf] at e5 ⊢
    exact run_rt rfl (run _ (q_ret _ e5)) (by show noLs _ = true; exact noLs_dN _)
  · rw [if_neg hf] at e5 ⊢
    exact run_ex rfl (run (.ex "TooBig" _) (by rw [sRet_s, e5]; rfl))
end
end GP

/-! GPy: joined purses as purses. -/
namespace GP
open GM
theorem keeps_mk (cs : List Nat) : ∀ (n c : Nat), c ≤ n → c ∈ cs → Mk (keeps cs) c
  | 0, c, h, hc => by have : c = 0 := by omega
                      subst this; exact .zero
  | n + 1, c, h, hc => by
    cases hm : mkB (cs.filter (· < c)) c with
    | false => exact .self (mem_keeps.mpr ⟨hc, hm⟩)
    | true =>
      exact (mkB_iff.mp hm).mono fun x hx => by
        obtain ⟨a, b⟩ := List.mem_filter.mp hx
        exact keeps_mk cs n x (by have := of_decide_eq_true b; omega) a
theorem mk_keeps {cs : List Nat} {n : Nat} : Mk (keeps cs) n ↔ Mk cs n :=
  ⟨fun h => h.sub fun x hx => (mem_keeps.mp hx).1, fun h => h.mono fun c hc => keeps_mk cs c c (Nat.le_refl _) hc⟩
theorem mkB_keeps (cs : List Nat) (n : Nat) : mkB (keeps cs) n = mkB cs n := mkB_congr (fun n => mk_keeps) n
theorem mkB_setN (cs : List Nat) (n : Nat) : mkB (setN cs) n = mkB cs n := mkB_congr (fun n => ⟨fun h => h.sub fun x hx => mem_setN.mp hx, fun h => h.sub fun x hx => mem_setN.mpr hx⟩) n
theorem fits_len {cs : List Nat} (h : fitsB cs = true) : cs.length ≤ 40 := by
  unfold fitsB at h; rw [Bool.and_eq_true] at h; exact of_decide_eq_true h.1
theorem fits_top {cs : List Nat} (h : fitsB cs = true) (asc : cs.Pairwise (· < ·)) : ∀ c ∈ cs, c ≤ 400 := by
  intro c hc
  have ne : cs ≠ [] := List.ne_nil_of_mem hc
  obtain ⟨l, hl⟩ : ∃ l, cs.getLast? = some l := ⟨_, List.getLast?_eq_some_getLast ne⟩
  unfold fitsB at h
  rw [Bool.and_eq_true, getLastD_is hl] at h
  have h2 := of_decide_eq_true h.2
  obtain ⟨k, el⟩ := List.getLast?_eq_some_iff.mp hl
  rw [el] at hc asc
  rcases List.mem_append.mp hc with z | z
  · have := (List.pairwise_append.mp asc).2.2 c z l (List.mem_singleton.mpr rfl); omega
  · rw [List.mem_singleton.mp z]; exact h2
theorem atoms_pu {T : Nat → Bool} {N k : Nat} (S : Sg T N) (hk : ∀ n, isAt T n = true → n < k) (hf : fitsB (atoms T k) = true) : Pu (atoms T k) where
  ne := by
    obtain ⟨c, h1, _⟩ := at_below S (N + 1) (N + 1) (Nat.le_refl _) (by omega) (S.far _ (by omega))
    exact List.ne_nil_of_mem (mem_atoms.mpr ⟨h1, hk c h1⟩)
  len := fits_len hf
  asc := atoms_asc T k
  pos := fun c hc => (isAt_iff.mp (mem_atoms.mp hc).1).1
  top := fits_top hf (atoms_asc T k)
/-- a purse that makes all from N on has no common divisor -/
theorem gcd_one {cs : List Nat} {N : Nat} (S : Sg (mkB cs) N) : gcds cs = 1 := by
  have h1 := (mkB_iff.mp (S.far N (Nat.le_refl _))).dvd (g := gcds cs) fun c hc => dvd_gcds.mp (Nat.dvd_refl _) c hc
  have h2 := (mkB_iff.mp (S.far (N + 1) (by omega))).dvd (g := gcds cs) fun c hc => dvd_gcds.mp (Nat.dvd_refl _) c hc
  have h3 : gcds cs ∣ 1 := by
    have := Nat.dvd_sub h2 h1
    rwa [show N + 1 - N = 1 by omega] at this
  exact Nat.dvd_one.mp h3
theorem pe_of {cs : List Nat} (p : Pu cs) (h1 : gcds cs = 1) : ∃ a, Pe cs a 400 := by
  obtain ⟨a, tl, e⟩ := List.exists_cons_of_ne_nil p.ne
  exact ⟨a, p, h1, ⟨tl, e⟩, p.top, by omega⟩
theorem Sg.congr {T U : Nat → Bool} {N : Nat} (S : Sg T N) (h : ∀ n, U n = T n) : Sg U N := by
  have : U = T := funext h
  rw [this]; exact S
/-- the coins of sums, as a purse without end of gaps -/
theorem atoms_pe {T : Nat → Bool} {N k : Nat} (S : Sg T N) (hk : ∀ n, isAt T n = true → n < k) (hf : fitsB (atoms T k) = true) : ∃ a, Pe (atoms T k) a 400 :=
  pe_of (atoms_pu S hk hf) (gcd_one (S.congr (atoms_make S hk)))
/-- either's purse -/
theorem pu_either {a b : List Nat} (p : Pu a) (q : Pu b) (hf : fitsB (keeps (setN (a ++ b))) = true) : Pu (keeps (setN (a ++ b))) := by
  have hpos : ∀ c ∈ setN (a ++ b), 1 ≤ c := fun c hc => (List.mem_append.mp (mem_setN.mp hc)).elim (p.pos c) (q.pos c)
  have htop : ∀ c ∈ setN (a ++ b), c ≤ 400 := fun c hc => (List.mem_append.mp (mem_setN.mp hc)).elim (p.top c) (q.top c)
  have hne : setN (a ++ b) ≠ [] := setN_ne (by have := p.ne; simp [this])
  exact ⟨keeps_ne hne (setN_asc _) hpos, fits_len hf, (setN_asc _).sublist List.filter_sublist, fun c hc => hpos c (mem_keeps.mp hc).1, fun c hc => htop c (mem_keeps.mp hc).1⟩
theorem mk_either (a b : List Nat) (n : Nat) : mkB (keeps (setN (a ++ b))) n = mkB (a ++ b) n := by rw [mkB_keeps, mkB_setN]
/-- what a law holds of a joined purse: None, or a purse that makes the sums U -/
structure Jn (ks : List Nat) (U : Nat → Bool) : Prop where
  pu : Pu ks
  made : ∀ n, mkB ks n = U n
def jD (ks : List Nat) : D := if fitsB ks then .tup (dN ks) else .non
theorem jD_cases (ks : List Nat) : (fitsB ks = true ∧ jD ks = .tup (dN ks)) ∨ (fitsB ks = false ∧ jD ks = .non) := by
  unfold jD
  cases h : fitsB ks with
  | true => exact .inl ⟨rfl, if_pos rfl⟩
  | false => exact .inr ⟨rfl, if_neg (by simp)⟩
theorem noL_jD (ks : List Nat) : noL (jD ks) = true := by
  rcases jD_cases ks with ⟨_, h⟩ | ⟨_, h⟩ <;> rw [h]
  · show noLs _ = true; exact noLs_dN _
  · rfl
/-- a try suite that returns None -/
theorem try_jD {L : TL} {o : Es} {r : Env} {ks : List Nat} (hL : csL L "TooBig" = some true) (ho : o r = if fitsB ks then .rt (.tup (dN ks)) else .ex "TooBig" r) : sTry (csL L) o (fun _ => sRet (cst .non)) r = .rt (jD ks) := by
  unfold sTry
  rw [ho]
  unfold jD
  cases fitsB ks with
  | true => rfl
  | false =>
    show (match csL L "TooBig" with | some true => noRaise (sRet (cst .non) r) | some false => _ | none => _) = _
    rw [hL]; rfl
theorem ret_jD {F : List D → Ro} {a : En} {r : Env} {ds : List D} {ks : List Nat} (ha : a r = .ok ds) (h : F ds = if fitsB ks then .rt (.tup (dN ks)) else .ex "TooBig") : sRet (eCall F a) r = if fitsB ks then .rt (.tup (dN ks)) else .ex "TooBig" r := by
  rw [sRet_s, eCall_s, ha, Rs.bind_ok, h]
  cases fitsB ks <;> rfl
end GP

/-! GPz: lists of purses; the children of a purse. -/
namespace GP
open GM
def tZ (t : List Nat) : D := .tup (dN t)
theorem dTups_Z (l : List (List Nat)) : dTups (l.map zs) = l.map tZ := by
  unfold dTups
  rw [List.map_map]
  refine List.map_congr_left fun t _ => ?_
  show D.tup (dInts (zs t)) = D.tup (dN t)
  rw [dN_ints]
theorem asTups_Z : ∀ {l : List (List Nat)}, (∀ t ∈ l, t ≠ []) → asTups (l.map tZ) = some (l.map zs)
  | [], _ => rfl
  | t :: l, h => by
    have ih := asTups_Z (l := l) fun u hu => h u (List.mem_cons_of_mem _ hu)
    have ht : (zs t).isEmpty = false := by
      have := h t List.mem_cons_self
      cases t with
      | nil => exact absurd rfl this
      | cons _ _ => rfl
    show (asInts (dN t)).bind (fun ns => if ns.isEmpty then none else (asTups (l.map tZ)).map fun l => ns :: l) = _
    rw [dN_ints, asInts_ints, ih]
    show (if (zs t).isEmpty = true then none else _) = _
    rw [ht]
    rfl
/-- sorted purses -/
def lsort (l : List (List Nat)) : List (List Nat) := (sortL (l.map zs)).map fun x => x.map Int.toNat
theorem zs_back (x : List Nat) : (zs x).map Int.toNat = x := by
  unfold zs
  rw [List.map_map]
  exact (List.map_congr_left (g := id) fun a _ => by show ((a : Int)).toNat = a; omega).trans (List.map_id _)
theorem lsort_perm (l : List (List Nat)) : (lsort l).Perm l := by
  unfold lsort
  have h := (sortL_perm (l.map zs)).map fun x => x.map Int.toNat
  rw [List.map_map] at h
  have e : l.map ((fun x => x.map Int.toNat) ∘ zs) = l := (List.map_congr_left (g := id) fun x _ => zs_back x).trans (List.map_id _)
  rwa [e] at h
theorem lsort_zs (l : List (List Nat)) : (lsort l).map zs = sortL (l.map zs) := by
  unfold lsort
  rw [List.map_map]
  refine (List.map_congr_left (g := id) fun x hx => ?_).trans (List.map_id _)
  obtain ⟨y, _, e⟩ := List.mem_map.mp ((sortL_perm (l.map zs)).mem_iff.mp hx)
  show zs (x.map Int.toNat) = x
  rw [← e, zs_back]
theorem mem_lsort {x : List Nat} {l : List (List Nat)} : x ∈ lsort l ↔ x ∈ l := (lsort_perm l).mem_iff
theorem lsort_len (l : List (List Nat)) : (lsort l).length = l.length := (lsort_perm l).length_eq
theorem lsort_congr {l m : List (List Nat)} (p : l.Perm m) : lsort l = lsort m := by
  have : (lsort l).map zs = (lsort m).map zs := by
    rw [lsort_zs, lsort_zs]
    exact sortedL_unique ((sortL_perm _).trans ((p.map zs).trans (sortL_perm _).symm)) (sortL_sorted _) (sortL_sorted _)
  have h := congrArg (fun l => l.map fun x => x.map Int.toNat) this
  simp only [List.map_map] at h
  have e : ∀ l : List (List Nat), l.map ((fun x => x.map Int.toNat) ∘ zs) = l := fun l => (List.map_congr_left (g := id) fun x _ => zs_back x).trans (List.map_id _)
  rwa [e, e] at h
theorem sortZ_ok {m : List (List Nat)} (h : ∀ t ∈ m, t ≠ []) (hl : m.length ≤ 3000000) : bSortT (.lst (m.map tZ)) = .ok ((lsort m).map tZ) := by
  unfold bSortT
  simp only [asTups_Z h]
  rw [if_pos (by rw [List.length_map]; unfold lim; omega), ← lsort_zs, dTups_Z]
theorem noL_tZ (t : List Nat) : noL (tZ t) = true := noLs_dN t
theorem noLs_Z (l : List (List Nat)) : noLs (l.map tZ) = true := noLs_map noL_tZ l
theorem dsh_Z : ∀ l : List (List Nat), dshs 7 (l.map tZ) = true
  | [] => rfl
  | t :: l => by
    have h : dsh 7 (tZ t) = true := by
      show dshs 6 (dN t) = true
      rw [dN_ints]
      exact dshs_ints 6 _
    show (dsh 7 (tZ t) && dshs 7 (l.map tZ)) = true
    rw [h, dsh_Z l]
    rfl
theorem deq_Z : ∀ l m : List (List Nat), deqs (l.map tZ) (m.map tZ) = decide (l = m)
  | [], [] => by simp [deqs]
  | [], _ :: _ => by simp [deqs]
  | _ :: _, [] => by simp [deqs]
  | t :: l, u :: m => by
    have h : deq (tZ t) (tZ u) = decide (t = u) := by
      show deqs (dN t) (dN u) = _
      rw [dN_ints, dN_ints, deqs_ints]
      exact decide_eq_decide.mpr ⟨zs_inj, congrArg zs⟩
    show (deq (tZ t) (tZ u) && deqs (l.map tZ) (m.map tZ)) = _
    rw [h, deq_Z l m]
    by_cases e : t = u <;> simp [e]
theorem eqZ (l m : List (List Nat)) : gEq (.lst (l.map tZ)) (.lst (m.map tZ)) = .ok (.bl (decide (l = m))) := by
  have h : ∀ l : List (List Nat), dsh 8 (.lst (l.map tZ)) = true := fun l => dsh_Z l
  rw [gEq_s (h l) (h m)]
  exact congrArg (fun b => Rs.ok (D.bl b)) (deq_Z l m)
theorem neZ (l m : List (List Nat)) : gNe (.lst (l.map tZ)) (.lst (m.map tZ)) = .ok (.bl (!decide (l = m))) := by
  have h : ∀ l : List (List Nat), dsh 8 (.lst (l.map tZ)) = true := fun l => dsh_Z l
  rw [gNe_s (h l) (h m)]
  exact congrArg (fun b => Rs.ok (D.bl (!b))) (deq_Z l m)
theorem eqTZ (a b : List Nat) : gEq (tZ a) (tZ b) = .ok (.bl (decide (a = b))) := eqT a b
theorem neTZ (a b : List Nat) : gNe (tZ a) (tZ b) = .ok (.bl (!decide (a = b))) := by
  show gNe (.tup (dN a)) (.tup (dN b)) = _
  rw [dN_ints, dN_ints, gNe_s (dsh_tints _) (dsh_tints _)]
  show Rs.ok (D.bl (!deqs _ _)) = _
  rw [deqs_ints]
  exact congrArg (fun b => Rs.ok (D.bl (!b))) (decide_eq_decide.mpr ⟨zs_inj, congrArg zs⟩)
/-- a comprehension over purses -/
theorem comp_Z {src : En} {r : Env} {l : List (List Nat)} {i : Nat} {t : Et} {e : Ee} {keep : List Nat → Bool} {F : List Nat → D} (hs : src r = .ok (l.map tZ)) (hl : l.length ≤ 100000)
    (h : ∀ c ∈ l, t ((r.set i .no).set i (.imm (tZ c))) = .ok (keep c) ∧ (keep c = true → e ((r.set i .no).set i (.imm (tZ c))) = .ok (F c))) : nComp src (gNm i) [i] t e r = .ok ((l.filter keep).map F) := by
  rw [nComp_s, hs, Rs.bind_ok, capC_ok (by rw [List.length_map]; exact hl), wipe_s]
  exact lcGo_map tZ keep F l fun c hc => ⟨_, gNm_s _ _ _, (h c hc).1, (h c hc).2⟩
/-! ### few coins -/
theorem atoms_lows {T : Nat → Bool} {N m b : Nat} (S : Sg T N) (hm : 0 < m) (hTm : T m = true) (hmin : ∀ k, 0 < k → k < m → T k = false) (hb : ∀ n, isAt T n = true → n < b) : (atoms T b).length ≤ m := by
  have eat : (sortN (lows T m N)).filter (isAt T) = atoms T b := asc_ext (List.Pairwise.sublist List.filter_sublist (sortN_asc (lows_nodup S hm (Nat.le_refl _)))) (atoms_asc _ _) fun n => by
    rw [List.mem_filter, mem_atoms, mem_sortN]
    exact ⟨fun ⟨_, h⟩ => ⟨h, hb n h⟩, fun ⟨h, _⟩ => ⟨at_lows S hm hTm hmin (Nat.le_refl _) h, h⟩⟩
  rw [← eat]
  have h1 := List.length_filter_le (isAt T) (sortN (lows T m N))
  rw [sortN_len, lows_len hm] at h1
  exact h1
theorem fits_of {cs : List Nat} (h : cs.length ≤ 40) (h2 : ∀ c ∈ cs, c ≤ 400) : fitsB cs = true := by
  unfold fitsB
  rw [decide_eq_true h, Bool.true_and]
  refine decide_eq_true ?_
  cases hl : cs.getLast? with
  | none => rw [List.getLastD_eq_getLast?, hl]; exact Nat.zero_le _
  | some l => rw [getLastD_is hl]; exact h2 l (List.mem_of_getLast? hl)
/-- few and not too great -/
theorem atoms_fit {T : Nat → Bool} {N m b : Nat} (S : Sg T N) (hm : 0 < m) (hm4 : m ≤ 40) (hTm : T m = true) (hN : N + m ≤ 400) (hb : ∀ n, isAt T n = true → n < b) : fitsB (atoms T b) = true := by
  obtain ⟨k, h1, h2, h3, h4⟩ := least_of (T := T) m m (Nat.le_refl _) hm hTm
  refine fits_of (Nat.le_trans (atoms_lows S h1 h3 h4 hb) (by omega)) fun c hc => ?_
  have hc := (mem_atoms.mp hc).1
  rcases at_far hc hTm hm with z | z
  · omega
  · rcases Nat.lt_or_ge (c - m) N with w | w
    · omega
    · rw [S.far _ w] at z; cases z
theorem gap_uniq {cs : List Nat} {o o' : Option Nat} (g' : Gap cs o') (g : Gap cs o) : o' = o := by
  cases o with
  | none =>
    cases o' with
    | none => rfl
    | some F => have := g F; rw [(show Gap cs (some F) from g').1] at this; cases this
  | some F =>
    have g : Gap cs (some F) := g
    cases o' with
    | none => have := g' F; rw [g.1] at this; cases this
    | some F' =>
      have g' : Gap cs (some F') := g'
      rcases Nat.lt_trichotomy F F' with h | h | h
      · have := g.2 F' h; rw [g'.1] at this; cases this
      · rw [h]
      · have := g'.2 F h; rw [g.1] at this; cases this
theorem great_is {cs : List Nat} {a m : Nat} (p : Pe cs a m) {o : Option Nat} (g : Gap cs o) : f_greatest_gap [.tup (dN cs)] = .rt (oI o) := by
  obtain ⟨_, _, o', _, _, _, _, _, eg, g', _, _⟩ := great_cases p
  rw [eg, gap_uniq g' g]
theorem gap_is {cs : List Nat} {a m : Nat} (p : Pe cs a m) : ∃ o, Gap cs o := by
  obtain ⟨_, _, o, _, _, _, _, _, _, g, _, _⟩ := great_cases p
  exact ⟨o, g⟩
/-- the sums below b that are not made -/
def gapsT (T : Nat → Bool) (b : Nat) : List Nat := (List.range b).filter fun n => !T n
theorem mem_gapsT {T : Nat → Bool} {b n : Nat} : n ∈ gapsT T b ↔ n < b ∧ T n = false := by
  unfold gapsT; rw [List.mem_filter, List.mem_range]; simp
theorem gapsT_asc (T : Nat → Bool) (b : Nat) : (gapsT T b).Pairwise (· < ·) := List.Pairwise.sublist List.filter_sublist List.pairwise_lt_range
theorem gapsT_len (T : Nat → Bool) (b : Nat) : (gapsT T b).length ≤ b := by
  have := List.length_filter_le (fun n => !T n) (List.range b)
  rwa [List.length_range] at this
theorem gapsT_succ {T : Nat → Bool} {b : Nat} (h : T b = false) : gapsT T (b + 1) = gapsT T b ++ [b] := by
  unfold gapsT
  rw [List.range_succ, List.filter_append]
  simp [h]
theorem gapsT_cut {T : Nat → Bool} {b b' : Nat} (h : ∀ n, b ≤ n → T n = true) (hb : b ≤ b') : gapsT T b' = gapsT T b := asc_ext (gapsT_asc _ _) (gapsT_asc _ _) fun n => by
  rw [mem_gapsT, mem_gapsT]
  refine ⟨fun ⟨h1, h2⟩ => ⟨?_, h2⟩, fun ⟨h1, h2⟩ => ⟨by omega, h2⟩⟩
  rcases Nat.lt_or_ge n b with z | z
  · exact z
  · rw [h n z] at h2; cases h2
theorem gapsT_congr {T U : Nat → Bool} {b : Nat} (h : ∀ n, n < b → T n = U n) : gapsT T b = gapsT U b := by
  unfold gapsT
  exact List.filter_congr fun n hn => by rw [h n (List.mem_range.mp hn)]
theorem gaps_all {cs : List Nat} {a m N : Nat} (p : Pe cs a m) (S : Sg (mkB cs) N) : f_gaps_of [.tup (dN cs)] = .rn (dN (gapsT (mkB cs) N)) := by
  rw [gaps_ok p (b := max N (m * a)) (by omega)]
  exact congrArg (fun l => Ro.rn (dN l)) (gapsT_cut (T := mkB cs) S.far (Nat.le_max_left _ _))
/-- the sums but one coin's -/
def lessT (T : Nat → Bool) (c : Nat) : Nat → Bool := fun n => n != c && T n
/-- a gap more: the sums' coins beyond the gaps -/
noncomputable def kidC (cs : List Nat) : Option Nat → List Nat
  | none => keeps cs
  | some F => (keeps cs).filter fun c => decide (F < c)
theorem mem_kidC {cs : List Nat} {o : Option Nat} {c : Nat} : c ∈ kidC cs o ↔ c ∈ keeps cs ∧ ∀ F, o = some F → F < c := by
  cases o with
  | none => exact ⟨fun h => ⟨h, fun F z => by cases z⟩, fun h => h.1⟩
  | some F =>
    show c ∈ (keeps cs).filter _ ↔ _
    rw [List.mem_filter, decide_eq_true_iff]
    exact ⟨fun ⟨h1, h2⟩ => ⟨h1, fun G z => by cases z; exact h2⟩, fun ⟨h1, h2⟩ => ⟨h1, h2 F rfl⟩⟩
theorem keeps_at {cs : List Nat} (asc : cs.Pairwise (· < ·)) (pos : ∀ c ∈ cs, 1 ≤ c) {c : Nat} (h : c ∈ keeps cs) : isAt (mkB cs) c = true := by
  have e := atoms_mk asc pos (b := cs.foldl max 0 + 1) fun x hx => by
    have : ∀ (l : List Nat) (a x : Nat), (x ∈ l → x ≤ l.foldl max a) ∧ a ≤ l.foldl max a := by
      intro l
      induction l with
      | nil => intro a x; exact ⟨fun h => by (cases h), Nat.le_refl _⟩
      | cons y l ih =>
        intro a x
        have h1 := (ih (max a y) x).1
        have h2 := (ih (max a y) x).2
        refine ⟨fun h => ?_, by show a ≤ l.foldl max (max a y); omega⟩
        show x ≤ l.foldl max (max a y)
        rcases List.mem_cons.mp h with rfl | h
        · omega
        · exact h1 h
    have := (this cs 0 x).1 hx
    omega
  rw [← e] at h
  exact (mem_atoms.mp h).1
/-- without a coin beyond the gaps -/
theorem less_sg {cs : List Nat} {N : Nat} (S : Sg (mkB cs) N) {o : Option Nat} (g : Gap cs o) {c : Nat} (hc : isAt (mkB cs) c = true) (ho : ∀ F, o = some F → F < c) : Sg (lessT (mkB cs) c) (c + 1) := by
  have S2 := sg_less S hc
  refine ⟨S2.zero, S2.add, fun n hn => ?_⟩
  have : mkB cs n = true := by
    cases o with
    | none => exact g n
    | some F => exact (show Gap cs (some F) from g).2 n (by have := ho F rfl; omega)
  show (n != c && mkB cs n) = true
  rw [this, Bool.and_true, bne_iff_ne]; omega
/-- a coin is not far beyond the gaps -/
theorem at_near {cs : List Nat} {a m : Nat} (p : Pe cs a m) {o : Option Nat} (g : Gap cs o) {c : Nat} (hc : isAt (mkB cs) c = true) : c ≤ a ∨ ∃ F, o = some F ∧ c ≤ F + a := by
  rcases at_far hc (mkB_iff.mpr (.self p.mem)) p.a0 with z | z
  · exact .inl z
  · cases o with
    | none => rw [g (c - a)] at z; cases z
    | some F =>
      have g : Gap cs (some F) := g
      refine .inr ⟨F, rfl, ?_⟩
      rcases Nat.lt_or_ge F (c - a) with w | w
      · rw [g.2 _ w] at z; cases z
      · omega
theorem less_has {cs : List Nat} {a m : Nat} (p : Pe cs a m) {o : Option Nat} (g : Gap cs o) {c : Nat} (ho : ∀ F, o = some F → F < c) : ∃ k, 0 < k ∧ k ≤ a + 1 ∧ lessT (mkB cs) c k = true := by
  have ha : mkB cs a = true := mkB_iff.mpr (.self p.mem)
  have h0 := p.a0
  by_cases h : a = c
  · refine ⟨a + 1, by omega, Nat.le_refl _, ?_⟩
    have : mkB cs (a + 1) = true := by
      cases o with
      | none => exact g _
      | some F => exact (show Gap cs (some F) from g).2 _ (by have := ho F rfl; omega)
    show (a + 1 != c && mkB cs (a + 1)) = true
    rw [this, Bool.and_true, bne_iff_ne]; omega
  · refine ⟨a, h0, by omega, ?_⟩
    show (a != c && mkB cs a) = true
    rw [ha, Bool.and_true, bne_iff_ne]; exact h
/-- all that is known of a child -/
structure Kid (cs : List Nat) (c b : Nat) : Prop where
  at_ : isAt (mkB cs) c = true
  sg : Sg (lessT (mkB cs) c) (c + 1)
  bd : ∀ n, isAt (lessT (mkB cs) c) n = true → n < b
  fit : fitsB (atoms (lessT (mkB cs) c) b) = true
theorem kid_of {cs : List Nat} {a m N : Nat} (p : Pe cs a m) (S : Sg (mkB cs) N) {o : Option Nat} (g : Gap cs o) (ha : a ≤ 39) (hF : ∀ F, o = some F → F + 2 * a ≤ 398) {b : Nat} (hb : 2 * a + 1 < b ∧ ∀ F, o = some F → F + 2 * a + 1 < b) {c : Nat} (hc : c ∈ kidC cs o) : Kid cs c b := by
  obtain ⟨h1, h2⟩ := mem_kidC.mp hc
  have hat := keeps_at p.pu.asc p.pu.pos h1
  have hs := less_sg S g hat h2
  obtain ⟨k, k1, k2, k3⟩ := less_has p g (c := c) h2
  have h0 := p.a0
  have hcb : c + 1 + k ≤ 400 ∧ c + k < b := by
    rcases at_near p g hat with z | ⟨F, e, z⟩
    · omega
    · have := hF F e
      have := hb.2 F e
      omega
  have hbb : ∀ n, isAt (lessT (mkB cs) c) n = true → n < b := fun n h => by
    rcases at_far h k3 k1 with z | z
    · omega
    · rcases Nat.lt_or_ge (n - k) (c + 1) with w | w
      · omega
      · rw [hs.far _ w] at z; cases z
  exact ⟨hat, hs, hbb, atoms_fit hs k1 (by omega) k3 hcb.1 hbb⟩
theorem kidsD_ok {cs : List Nat} {a m N : Nat} (p : Pe cs a m) (S : Sg (mkB cs) N) {o : Option Nat} (g : Gap cs o) (ha : a ≤ 39) (hF : ∀ F, o = some F → F + 2 * a ≤ 398) {b : Nat} (hb : 2 * a + 1 < b ∧ ∀ F, o = some F → F + 2 * a + 1 < b) :
    f_children_of [.tup (dN cs)] = .rn ((lsort ((kidC cs o).map fun c => atoms (lessT (mkB cs) c) b)).map tZ) := by
  obtain ⟨_, _, o', _, _, _, _, _, eg, g', _, _⟩ := great_cases p
  have ho : o' = o := gap_uniq g' g
  subst ho
  have el := least_ok p.pu
  have hlen := (Pu.keeps p.pu).len
  have hkl : (kidC cs o').length ≤ 40 := by
    cases o' with
    | none => exact hlen
    | some F => exact Nat.le_trans (List.length_filter_le _ _) hlen
  have kid := fun c (hc : c ∈ kidC cs o') => kid_of p S g ha hF hb hc
  refine run_rn rfl ?_ (noLs_Z _)
  unfold b_children_of
  refine (q_set (oI o') (by simp [startE, eg])).trans ?_
  have hc1 : nComp (iS (eCall f_least_purse (aCons (vI 0) aNil))) (gNm 3) [3] (tOr (tBl (op1 gIsN (vI 1))) (tBl (op2 gGt (vI 3) (vI 1)))) (vI 3) [.imm (.tup (dN cs)), .imm (oI o'), .no, .no] = .ok (dN (kidC cs o')) := by
    have hs : iS (eCall f_least_purse (aCons (vI 0) aNil)) [.imm (.tup (dN cs)), .imm (oI o'), .no, .no] = .ok (dN (keeps cs)) := by simp [el]
    cases o' with
    | none =>
      have := comp_keep (i := 3) (t := tOr (tBl (op1 gIsN (vI 1))) (tBl (op2 gGt (vI 3) (vI 1)))) (e := vI 3) (keep := fun _ => true) (F := dI) hs (by omega) fun c hc => ⟨rfl, fun _ => rfl⟩
      rw [this, List.filter_eq_self.mpr fun _ _ => rfl]; rfl
    | some F =>
      exact comp_keep (i := 3) (t := tOr (tBl (op1 gIsN (vI 1))) (tBl (op2 gGt (vI 3) (vI 1)))) (e := vI 3) (keep := fun c => decide (F < c)) (F := dI) hs (by omega) fun c hc => ⟨by
        simp [oI, isNon], fun _ => rfl⟩
  refine (q_set (.lst (dN (kidC cs o'))) (by rw [toE_s]; exact congrArg (Rs.map D.lst) hc1)).trans ?_
  have hc2 : nComp (iS (vI 2)) (gNm 3) [3] tYes (eCall f_without (aCons (vI 0) (aCons (vI 3) aNil))) [.imm (.tup (dN cs)), .imm (oI o'), .imm (.lst (dN (kidC cs o'))), .no] = .ok (((kidC cs o').map fun c => atoms (lessT (mkB cs) c) b).map tZ) := by
    have := comp_keep (src := iS (vI 2)) (r := [.imm (.tup (dN cs)), .imm (oI o'), .imm (.lst (dN (kidC cs o'))), .no]) (cs := kidC cs o') (i := 3) (t := tYes) (e := eCall f_without (aCons (vI 0) (aCons (vI 3) aNil))) (keep := fun _ => true) (F := fun c => tZ (atoms (lessT (mkB cs) c) b)) rfl (by omega) fun c hc => ⟨rfl, fun _ => by
      have K := kid c hc
      have hc400 : c + 1 ≤ 400 := by
        rcases at_near p g K.at_ with z | ⟨F, e, z⟩
        · omega
        · have := hF F e; omega
      have e := without_ok p K.at_ K.sg hc400 K.bd
      have e : f_without [.tup (dN cs), dI c] = if fitsB (atoms (lessT (mkB cs) c) b) then .rt (.tup (dN (atoms (lessT (mkB cs) c) b))) else .ex "TooBig" := e
      rw [if_pos K.fit] at e
      simp [e]
      rfl⟩
    rw [this, List.filter_eq_self.mpr fun _ _ => rfl, List.map_map]
    rfl
  refine q_retN _ ?_
  unfold nOp1
  show (toE (nComp _ _ _ _ _) [.imm (.tup (dN cs)), .imm (oI o'), .imm (.lst (dN (kidC cs o'))), .no]).bind bSortT = _
  rw [toE_s, hc2, Rs.map_ok, Rs.bind_ok]
  refine sortZ_ok (fun t ht => ?_) (by rw [List.length_map]; omega)
  obtain ⟨c, hc, e⟩ := List.mem_map.mp ht
  have K := kid c hc
  exact e ▸ (atoms_pu K.sg K.bd K.fit).ne
theorem take_last (cs : List Nat) (x : Nat) : cut (dN (cs ++ [x])) none (some (-1)) = dN cs := by
  have h : sIx (dN (cs ++ [x])).length (dN (cs ++ [x])).length (some (-1)) = cs.length := by
    rw [dN_len, List.length_append]
    show (if (-1 : Int) < 0 then (-1 + ((cs.length + 1 : Nat) : Int)).toNat else min ((-1 : Int)).toNat (cs.length + 1)) = _
    rw [if_pos (by omega)]; omega
  unfold cut
  rw [h]
  show ((dN (cs ++ [x])).drop 0).take (cs.length - 0) = _
  rw [List.drop_zero, Nat.sub_zero]
  unfold dN
  rw [List.map_append]
  exact List.take_left' (by rw [List.length_map])
theorem ixl_last (cs : List Nat) (x : Nat) : gIx (.lst (dN (cs ++ [x]))) (.int (-1)) = .ok (dI x) := by
  show ofO (atI (dN (cs ++ [x])) (-1)) = _
  rw [ix_last List.getLast?_concat]; rfl
theorem inL_Z (x : List Nat) : ∀ l : List (List Nat), inL (tZ x) (l.map tZ) = decide (x ∈ l)
  | [] => by simp [inL]
  | y :: l => by
    have ih := inL_Z x l
    unfold inL at ih ⊢
    rw [List.map_cons, List.any_cons, ih]
    have h : deq (tZ y) (tZ x) = decide (y = x) := by
      show deqs (dN y) (dN x) = _
      rw [dN_ints, dN_ints, deqs_ints]
      exact decide_eq_decide.mpr ⟨zs_inj, congrArg zs⟩
    rw [h]
    by_cases e : y = x
    · simp [e]
    · have e' : ¬ x = y := fun z => e z.symm
      simp [e, e']
theorem inD_Z (x : List Nat) (l : List (List Nat)) : gInD (tZ x) (.lst (l.map tZ)) = .ok (.bl (decide (x ∈ l))) := by
  unfold gInD
  have h1 : dsh 7 (tZ x) = true := by
    show dshs 6 (dN x) = true
    rw [dN_ints]; exact dshs_ints 6 _
  simp only [h1, dsh_Z l, Bool.and_self, if_true]
  rw [inL_Z]
theorem keeps_b {cs : List Nat} (p : Pu cs) : atoms (mkB cs) 401 = keeps cs := atoms_mk p.asc p.pos fun c hc => by have := p.top c hc; omega
theorem mem_keeps_at {cs : List Nat} (p : Pu cs) {c : Nat} (hc : c ≤ 400) : c ∈ keeps cs ↔ isAt (mkB cs) c = true := by
  rw [← keeps_b p, mem_atoms]
  exact ⟨fun h => h.1, fun h => ⟨h, by omega⟩⟩
theorem fits_pu {cs : List Nat} (p : Pu cs) : fitsB cs = true := fits_of p.len p.top
/-- atoms, however far they are looked for -/
theorem atoms_same {T : Nat → Bool} {b b' : Nat} (h : ∀ n, isAt T n = true → n < b) (h' : ∀ n, isAt T n = true → n < b') : atoms T b = atoms T b' := asc_ext (atoms_asc _ _) (atoms_asc _ _) fun n => by
  rw [mem_atoms, mem_atoms]
  exact ⟨fun ⟨h1, _⟩ => ⟨h1, h' n h1⟩, fun ⟨h1, _⟩ => ⟨h1, h n h1⟩⟩
theorem at_401 {cs : List Nat} {a m : Nat} (p : Pe cs a m) {c : Nat} (h : isAt (mkB cs) c = true) : c < 401 := by
  obtain ⟨h0, h1, h2⟩ := isAt_iff.mp h
  obtain ⟨d, hd, hdc, hm⟩ := (Mk.step h0).mp (mkB_iff.mp h1)
  have hd1 := p.pu.pos d hd
  have hd4 := p.pu.top d hd
  rcases Nat.lt_or_ge d c with z | z
  · have := h2 d z hd1 (mkB_iff.mpr (.self hd))
    rw [mkB_iff.mpr hm] at this; cases this
  · omega
end GP

/-! GPA: purses by their gaps; all_with. -/
namespace GP
open GM
def tG (G : List Nat) (n : Nat) : Bool := !decide (n ∈ G)
def kidsG (G : List Nat) : List (List Nat) := ((List.range' 1 30).filter fun c => isAt (tG G) c && G.all fun g => decide (g < c)).map fun c => G ++ [c]
def lev : Nat → List (List Nat)
  | 0 => [[]]
  | m + 1 => (lev m).flatMap kidsG
def aG (G : List Nat) : List Nat := atoms (tG G) 31
def allW (m : Nat) : List (List Nat) := lsort ((lev m).map aG)
def okG (m : Nat) (G : List Nat) : Bool := (G.all fun g => decide (g < 14)) && (List.range' 1 8).any (tG G) && decide ((gapsT (tG G) 14).length = m) && decide (G.length = m)
theorem lev_chk : ((List.range 8).all fun m => (lev m).all (okG m) && decide ((lev m).length ≤ 39)) = true := by decide +kernel
theorem tG_app (G : List Nat) (c : Nat) : tG (G ++ [c]) = lessT (tG G) c := funext fun n => by
  unfold tG lessT
  by_cases h : n = c
  · subst h; simp
  · rw [bne_iff_ne.mpr h, Bool.true_and]
    simp [h]
theorem lev_sg : ∀ m, ∀ G ∈ lev m, Sg (tG G) 31 := by
  intro m
  induction m with
  | zero =>
    intro G h
    rw [List.mem_singleton.mp h]
    exact ⟨rfl, fun _ _ _ _ => rfl, fun _ _ => rfl⟩
  | succ m ih =>
    intro G h
    obtain ⟨H, hH, hG⟩ := List.mem_flatMap.mp h
    obtain ⟨c, hc, e⟩ := List.mem_map.mp hG
    obtain ⟨h1, h2⟩ := List.mem_filter.mp hc
    rw [List.mem_range'_1] at h1
    rw [Bool.and_eq_true] at h2
    subst e
    rw [tG_app]
    exact (sg_less (ih H hH) h2.1).mono (by omega)
structure Nd (G : List Nat) : Prop where
  sg : Sg (tG G) 14
  has : ∃ k, 0 < k ∧ k ≤ 8 ∧ tG G k = true
theorem lev_at {m : Nat} (hm : m ≤ 7) : (∀ G ∈ lev m, okG m G = true) ∧ (lev m).length ≤ 39 := by
  have h := List.all_eq_true.mp lev_chk m (List.mem_range.mpr (by omega))
  rw [Bool.and_eq_true] at h
  exact ⟨List.all_eq_true.mp h.1, of_decide_eq_true h.2⟩
theorem nd_of {m : Nat} (hm : m ≤ 7) {G : List Nat} (hG : G ∈ lev m) : Nd G := by
  have h := (lev_at hm).1 G hG
  unfold okG at h
  rw [Bool.and_eq_true, Bool.and_eq_true, Bool.and_eq_true] at h
  obtain ⟨⟨⟨h1, h2⟩, _⟩, _⟩ := h
  have S := lev_sg m G hG
  refine ⟨⟨S.zero, S.add, fun n hn => ?_⟩, ?_⟩
  · unfold tG
    rw [decide_eq_false, Bool.not_false]
    intro z
    have := of_decide_eq_true (List.all_eq_true.mp h1 n z)
    omega
  · obtain ⟨k, hk, ht⟩ := List.any_eq_true.mp h2
    rw [List.mem_range'_1] at hk
    exact ⟨k, by omega, by omega, ht⟩
section
variable {G : List Nat}
theorem Nd.b (h : Nd G) : ∀ n, isAt (tG G) n = true → n < 31 := fun n hn => by
  obtain ⟨k, h1, h2, h3⟩ := h.has
  rcases at_far hn h3 h1 with z | z
  · omega
  · rcases Nat.lt_or_ge (n - k) 14 with w | w
    · omega
    · rw [h.sg.far _ w] at z; cases z
theorem Nd.fit (h : Nd G) : fitsB (aG G) = true := by
  obtain ⟨k, h1, h2, h3⟩ := h.has
  exact atoms_fit h.sg h1 (by omega) h3 (by omega) h.b
theorem Nd.made (h : Nd G) : ∀ n, mkB (aG G) n = tG G n := atoms_make h.sg h.b
theorem Nd.pe (h : Nd G) : ∃ a, Pe (aG G) a 400 ∧ a ≤ 8 := by
  obtain ⟨a, p⟩ := atoms_pe h.sg h.b h.fit
  refine ⟨a, p, ?_⟩
  obtain ⟨k, h1, h2, h3⟩ := h.has
  obtain ⟨tl, e⟩ := p.hd
  have hma : mkB (aG G) k = true := by rw [h.made]; exact h3
  obtain ⟨d, hd, hda, _⟩ := (Mk.step h1).mp (mkB_iff.mp hma)
  rw [show aG G = a :: tl from e] at hd
  have hasc := p.pu.asc
  rw [e] at hasc
  rcases List.mem_cons.mp hd with z | z
  · omega
  · have := (List.pairwise_cons.mp hasc).1 d z; omega
theorem Nd.kB (h : Nd G) : mkB (aG G) = tG G := funext h.made
/-- its own least purse -/
theorem Nd.keeps (h : Nd G) : keeps (aG G) = aG G := by
  obtain ⟨a, p, _⟩ := h.pe
  rw [← keeps_b p.pu, h.kB]
  exact atoms_same (fun n hn => by have := h.b n hn; omega) h.b
theorem Nd.sgk (h : Nd G) : Sg (mkB (aG G)) 14 := h.sg.congr h.made
theorem Nd.gap (h : Nd G) {o : Option Nat} (g : Gap (aG G) o) : ∀ F, o = some F → F < 14 := fun F z => by
  subst z
  have g : Gap (aG G) (some F) := g
  rcases Nat.lt_or_ge F 14 with w | w
  · exact w
  · have := h.sgk.far F w; rw [g.1] at this; cases this
theorem Nd.kids (h : Nd G) : f_children_of [tZ (aG G)] = .rn ((lsort ((kidsG G).map aG)).map tZ) := by
  obtain ⟨a, p, ha⟩ := h.pe
  obtain ⟨o, g⟩ := gap_is p
  have hF := h.gap g
  have e := kidsD_ok p h.sgk g (by omega) (fun F z => by have := hF F z; omega) (b := 31) ⟨by omega, fun F z => by have := hF F z; omega⟩
  have el : (kidC (aG G) o).map (fun c => atoms (lessT (mkB (aG G)) c) 31) = (kidsG G).map aG := by
    have e1 : kidC (aG G) o = (List.range' 1 30).filter fun c => isAt (tG G) c && G.all fun g => decide (g < c) := by
      refine asc_ext ?_ (List.Pairwise.sublist List.filter_sublist List.pairwise_lt_range') fun c => ?_
      · cases o with
        | none => exact p.pu.keeps.asc
        | some F => exact List.Pairwise.sublist List.filter_sublist p.pu.keeps.asc
      · rw [mem_kidC, h.keeps, List.mem_filter, List.mem_range'_1, Bool.and_eq_true]
        have hg : (∀ F, o = some F → F < c) ↔ (G.all fun g => decide (g < c)) = true := by
          rw [List.all_eq_true]
          cases o with
          | none =>
            refine ⟨fun _ x hx => ?_, fun _ F z => by cases z⟩
            have := g x
            rw [h.made] at this
            unfold tG at this
            rw [decide_eq_true hx] at this; cases this
          | some F =>
            have g : Gap (aG G) (some F) := g
            have hFG : F ∈ G := by
              have := g.1
              rw [h.made] at this
              unfold tG at this
              exact of_decide_eq_true (by simpa using this)
            refine ⟨fun z x hx => decide_eq_true ?_, fun z F' e => by cases e; exact of_decide_eq_true (z F hFG)⟩
            have h1 := z F rfl
            rcases Nat.lt_or_ge F x with w | w
            · have := g.2 x w
              rw [h.made] at this
              unfold tG at this
              rw [decide_eq_true hx] at this; cases this
            · omega
        rw [← hg]
        constructor
        · intro ⟨h1, h2⟩
          have h3 := mem_atoms.mp h1
          have h4 := (isAt_iff.mp h3.1).1
          exact ⟨by omega, h3.1, h2⟩
        · intro ⟨h1, h2, h3⟩
          exact ⟨mem_atoms.mpr ⟨h2, h.b c h2⟩, h3⟩
    rw [e1]
    unfold kidsG
    rw [List.map_map]
    refine List.map_congr_left fun c _ => ?_
    show _ = atoms (tG (G ++ [c])) 31
    rw [tG_app, h.kB]
  rw [el] at e
  exact e
end
theorem perm_map_inv {α β : Type} {f : α → β} : ∀ {m : List α} {l : List β}, l.Perm (m.map f) → ∃ m' : List α, m'.Perm m ∧ m'.map f = l := by
  intro m
  induction m with
  | nil => intro l h; exact ⟨[], List.Perm.refl _, (List.Perm.eq_nil h).symm⟩
  | cons a m ih =>
    intro l h
    have ha : f a ∈ l := h.mem_iff.mpr List.mem_cons_self
    obtain ⟨s, t, e⟩ := List.append_of_mem ha
    subst e
    have h2 : (s ++ t).Perm (m.map f) := List.Perm.cons_inv (List.perm_middle.symm.trans h)
    obtain ⟨m', h3, h4⟩ := ih h2
    obtain ⟨m1, m2, e1, e2, e3⟩ := List.map_eq_append_iff.mp h4
    refine ⟨m1 ++ a :: m2, List.perm_middle.trans (List.Perm.cons a (e1 ▸ h3)), ?_⟩
    rw [List.map_append, List.map_cons, e2, e3]
theorem flat_perm {α β : Type} {f g : α → List β} (h : ∀ a, (f a).Perm (g a)) : ∀ l : List α, (l.flatMap f).Perm (l.flatMap g)
  | [] => List.Perm.refl _
  | a :: l => by
    rw [List.flatMap_cons, List.flatMap_cons]
    exact (h a).append (flat_perm h l)
theorem flat_permR {α β : Type} {f : α → List β} {l m : List α} (h : l.Perm m) : (l.flatMap f).Perm (m.flatMap f) := by
  induction h with
  | nil => exact List.Perm.refl _
  | cons a _ ih => rw [List.flatMap_cons, List.flatMap_cons]; exact (List.Perm.refl _).append ih
  | swap a b l =>
    rw [List.flatMap_cons, List.flatMap_cons, List.flatMap_cons, List.flatMap_cons, ← List.append_assoc, ← List.append_assoc]
    exact List.perm_append_comm.append_right _
  | trans _ _ h1 h2 => exact h1.trans h2
theorem kidsG_len (G : List Nat) : (kidsG G).length ≤ 30 := by
  unfold kidsG
  rw [List.length_map]
  exact Nat.le_trans (List.length_filter_le _ _) (by rw [List.length_range']; omega)
theorem run2_rt {n np : Nat} {b : Es} {ds : List D} {d : D} (h : ds.length = np) (hn : noLs ds = true) (h2 : b (startE n ds) = .rt d) : runB n np b ds = .rt d := by
  unfold runB
  rw [hn]
  exact run0_rt h hn h2
theorem run2_ex {n np : Nat} {b : Es} {ds : List D} {c : String} {q : Env} (h : ds.length = np) (h2 : b (startE n ds) = .ex c q) : runB n np b ds = .ex c := by
  unfold runB runF
  rw [if_pos h, if_pos (by cases noLs ds <;> rfl), h2]
  rfl
theorem ext_s {i : Nat} {e : En} {r : Env} {ds es : List D} (h : r[i]? = some (.own ds)) (he : e r = .ok es) (hl : ds.length + es.length ≤ 1000000) : sExt i e r = .nx (r.set i (.own (ds ++ es))) := by
  unfold sExt
  rw [h]
  show liftS r (e r) _ = _
  rw [he, liftS_ok, if_pos (by unfold lim; omega)]
theorem aw_loop (x0 x1 x2 : SV) : ∀ (Gs : List (List Nat)) (acc : List (List Nat)) (x4 : SV), (∀ G ∈ Gs, Nd G) → acc.length + 30 * Gs.length ≤ 100000 →
    ∃ y4, forGo (gNm 4) o_all_with0 ((Gs.map aG).map tZ) [x0, x1, x2, .own (acc.map tZ), x4] = .nx [x0, x1, x2, .own ((acc ++ Gs.flatMap fun G => lsort ((kidsG G).map aG)).map tZ), y4] := by
  intro Gs
  induction Gs with
  | nil => intro acc x4 _ _; exact ⟨x4, by show _ = So.nx [x0, x1, x2, .own ((acc ++ []).map tZ), x4]; rw [List.append_nil]; rfl⟩
  | cons G Gs ih =>
    intro acc x4 h hl
    rw [List.length_cons] at hl
    have hk := (h G List.mem_cons_self).kids
    have hkl : (lsort ((kidsG G).map aG)).length ≤ 30 := by rw [lsort_len, List.length_map]; exact kidsG_len G
    have e1 : o_all_with0 [x0, x1, x2, .own (acc.map tZ), .imm (tZ (aG G))] = .nx [x0, x1, x2, .own ((acc ++ lsort ((kidsG G).map aG)).map tZ), .imm (tZ (aG G))] := by
      rw [o_all_with0_s]
      refine (ext_s (es := (lsort ((kidsG G).map aG)).map tZ) rfl (by simp [hk]) (by rw [List.length_map, List.length_map]; omega)).trans ?_
      rw [List.map_append]; rfl
    obtain ⟨y4, e2⟩ := ih (acc ++ lsort ((kidsG G).map aG)) (.imm (tZ (aG G))) (fun H hH => h H (List.mem_cons_of_mem _ hH)) (by rw [List.length_append]; omega)
    refine ⟨y4, ?_⟩
    have e3 := for_nm (i := 4) (d := tZ (aG G)) (ds := (Gs.map aG).map tZ) (r := [x0, x1, x2, .own (acc.map tZ), x4]) rfl e1
    rw [List.map_cons, List.map_cons, e3, List.flatMap_cons, ← List.append_assoc]
    exact e2
theorem aw_turn {k : Nat} (hk : k ≤ 6) (x0 x2 x3 x4 : SV) : ∃ y3 y4, o_all_with1 [x0, .imm (.lst ((allW k).map tZ)), x2, x3, x4] = .nx [x0, .imm (.lst ((allW (k + 1)).map tZ)), x2, y3, y4] := by
  obtain ⟨Gs, hp, e⟩ := perm_map_inv (lsort_perm ((lev k).map aG))
  have hlen : Gs.length ≤ 39 := by rw [hp.length_eq]; exact (lev_at (by omega)).2
  have hnd : ∀ G ∈ Gs, Nd G := fun G hG => nd_of (m := k) (by omega) (hp.mem_iff.mp hG)
  have e : Gs.map aG = allW k := e
  obtain ⟨y4, e1⟩ := aw_loop x0 (.imm (.lst ((allW k).map tZ))) x2 Gs [] x4 hnd (by show 0 + _ ≤ _; omega)
  rw [e, List.nil_append] at e1
  have e1 : forGo (gNm 4) o_all_with0 ((allW k).map tZ) [x0, .imm (.lst ((allW k).map tZ)), x2, .own [], x4] = _ := e1
  have hperm : (Gs.flatMap fun G => lsort ((kidsG G).map aG)).Perm ((lev (k + 1)).map aG) := by
    refine (flat_perm (fun G => lsort_perm _) Gs).trans ((flat_permR hp).trans ?_)
    show ((lev k).flatMap fun G => (kidsG G).map aG).Perm (((lev k).flatMap kidsG).map aG)
    rw [List.map_flatMap]
  have hne : ∀ t ∈ (Gs.flatMap fun G => lsort ((kidsG G).map aG)), t ≠ [] := fun t ht => by
    obtain ⟨G, hG, e⟩ := List.mem_map.mp (hperm.mem_iff.mp ht)
    have h := nd_of (m := k + 1) (by omega) hG
    rw [← e]
    exact (atoms_pu h.sg h.b h.fit).ne
  have hl2 := hperm.length_eq
  rw [List.length_map] at hl2
  have hl3 := (lev_at (m := k + 1) (by omega)).2
  have es := sortZ_ok hne (by omega)
  rw [lsort_congr hperm] at es
  refine ⟨.own ((Gs.flatMap fun G => lsort ((kidsG G).map aG)).map tZ), y4, ?_⟩
  rw [o_all_with1_s]
  refine (q_setN [] rfl).trans ?_
  refine (q_for ((allW k).map tZ) rfl e1).trans ?_
  rw [sSet_s]
  have : toE (nOp1 bSortT (vO 3)) [x0, .imm (.lst ((allW k).map tZ)), x2, .own ((Gs.flatMap fun G => lsort ((kidsG G).map aG)).map tZ), y4] = .ok (.lst ((allW (k + 1)).map tZ)) := by
    rw [toE_s]
    show Rs.map D.lst (bSortT (.lst _)) = _
    rw [es]; rfl
  rw [this]
  rfl
theorem all_with_ok {m : Nat} (hm : m ≤ 7) : f_all_with [dI m] = .rt (.lst ((allW m).map tZ)) := by
  have loop : ∀ (k i : Nat) (x2 x3 x4 : SV), i + k ≤ 7 → ∃ y2 y3 y4, forGo (gNm 2) o_all_with1 ((List.range' i k).map dI) [.imm (dI m), .imm (.lst ((allW i).map tZ)), x2, x3, x4] = .nx [.imm (dI m), .imm (.lst ((allW (i + k)).map tZ)), y2, y3, y4] := by
    intro k
    induction k with
    | zero => intro i x2 x3 x4 _; exact ⟨x2, x3, x4, rfl⟩
    | succ k ih =>
      intro i x2 x3 x4 h
      obtain ⟨y3, y4, e1⟩ := aw_turn (k := i) (by omega) (.imm (dI m)) (.imm (dI i)) x3 x4
      obtain ⟨z2, z3, z4, e2⟩ := ih (i + 1) (.imm (dI i)) y3 y4 (by omega)
      refine ⟨z2, z3, z4, ?_⟩
      have e3 := for_nm (i := 2) (d := dI i) (ds := (List.range' (i + 1) k).map dI) (r := [.imm (dI m), .imm (.lst ((allW i).map tZ)), x2, x3, x4]) rfl e1
      rw [List.range'_succ, List.map_cons, e3, show i + (k + 1) = i + 1 + k by omega]
      exact e2
  obtain ⟨y2, y3, y4, e1⟩ := loop m 0 .no .no .no (by omega)
  rw [Nat.zero_add] at e1
  have h0 : allW 0 = [[1]] := by decide +kernel
  rw [h0] at e1
  have e0 : f_is_within [dI m, .int 0, .int 7] = .rt (.bl true) := by rw [within_ok]; exact congrArg (fun x => Ro.rt (.bl x)) (decide_eq_true (by omega))
  refine run2_rt rfl rfl ?_
  unfold b_all_with
  refine (q_no (by simp [startE, e0])).trans ?_
  refine (q_set (.lst ([[1]].map tZ)) rfl).trans ?_
  refine (q_for ((List.range' 0 m).map dI) ?_ e1).trans (q_ret _ rfl)
  rw [iR1_i (j := (m : Int)) rfl (in62 (by omega) (by omega)), show ((m : Int)).toNat = m by omega]
  exact congrArg Rs.ok (rng_r' 0 m)
end GP

/-! GL_k28: k28's law in plain Lean. -/
namespace GP
open GM
/-! ### the twin of a list of plain things; a plain thing emptied -/
theorem flat_noLs : ∀ {ds : List D}, ds.all flatD = true → noLs ds = true
  | [], _ => rfl
  | d :: ds, h => by
    rw [List.all_cons, Bool.and_eq_true] at h
    show (noL d && noLs ds) = true
    rw [flat_noLs h.2, Bool.and_true]
    cases d with
    | tup es => exact h.1
    | non => rfl
    | bl _ => rfl
    | int _ => rfl
    | str _ => rfl
    | lst _ => cases h.1
    | scr _ => rfl
    | fn _ _ => cases h.1
theorem flat_is {d : D} (h : flatD d = true) : gIsT "list" d = .ok (.bl false) ∧ noL d = true := by
  cases d with
  | tup es => exact ⟨rfl, h⟩
  | non => exact ⟨rfl, rfl⟩
  | bl _ => exact ⟨rfl, rfl⟩
  | int _ => exact ⟨rfl, rfl⟩
  | str _ => exact ⟨rfl, rfl⟩
  | lst _ => cases h
  | scr _ => cases h
  | fn _ _ => cases h
theorem twin_1 {d : D} (h : flatD d = true) : f_l_twin_n 1 [d] = .rt d := by
  obtain ⟨h1, h2⟩ := flat_is h
  rw [f_l_twin_ns 0]
  refine run_rt rfl ?_ h2
  unfold b_l_twin
  exact (q_yes (by simp [startE, h1])).trans (q_ret d rfl)
theorem twin_row : ∀ r : D, rowD r = true → ∃ ds, r = .lst ds ∧ f_l_twin_n 2 [r] = .rn ds := by
  intro r h
  cases r with
  | lst ds =>
    have h : (ds.all flatD && decide (ds.length ≤ 1000000)) = true := h
    obtain ⟨h1, h2⟩ := Bool.and_eq_true_iff.mp h
    have h2 := of_decide_eq_true h2
    refine ⟨ds, rfl, ?_⟩
    rw [f_l_twin_ns 1]
    refine run_rn rfl ?_ (flat_noLs h1)
    unfold b_l_twin
    refine (q_no rfl).trans (q_retN ds ?_)
    have es : iS (vI 0) (startE 2 [.lst ds]) = .ok ds := rfl
    rw [nComp_s, es, Rs.bind_ok, show capC ds.length (lcGo (gNm 1) tYes (eCall (f_l_twin_n 1) (aCons (vI 1) aNil)) (wipeE (startE 2 [.lst ds]) [1]) ds) = lcGo (gNm 1) tYes (eCall (f_l_twin_n 1) (aCons (vI 1) aNil)) (wipeE (startE 2 [.lst ds]) [1]) ds from if_pos (by unfold lim; omega)]
    have := lcGo_all (g := gNm 1) (e := eCall (f_l_twin_n 1) (aCons (vI 1) aNil)) (r := wipeE (startE 2 [.lst ds]) [1]) (fun d => d) (fun d => d) ds fun d hd => by
      have e := twin_1 (List.all_eq_true.mp h1 d hd)
      refine ⟨_, gNm_s _ _ _, ?_⟩
      simp [wipeE, startE, e]
    simpa using this
  | _ => cases h
theorem emp_flat : ∀ d : D, flatD d = true → f_l_emptied0 [d] = .rt .non := by
  intro d h
  obtain ⟨h1, _⟩ := flat_is h
  refine run_nx (q := startE 2 [d]) rfl ?_
  unfold b_l_emptied0
  rw [sIf_s]
  simp [startE, h1]
/-! ### rows -/
def Row (r : D) : Prop := (∃ l : List Nat, r = .lst (dN l) ∧ l.length ≤ 1000) ∨ ∃ l : List (List Nat), r = .lst (l.map tZ) ∧ l.length ≤ 1000
theorem dshZ (k : Nat) : ∀ l : List (List Nat), dshs (k + 1) (l.map tZ) = true
  | [] => rfl
  | t :: l => by
    show (dsh (k + 1) (tZ t) && dshs (k + 1) (l.map tZ)) = true
    have h : dsh (k + 1) (tZ t) = true := by
      show dshs k (dN t) = true
      rw [dN_ints]; exact dshs_ints k _
    rw [h, dshZ k l]; rfl
theorem deqZ : ∀ l : List (List Nat), deqs (l.map tZ) (l.map tZ) = true
  | [] => rfl
  | t :: l => by
    show (deq (tZ t) (tZ t) && deqs (l.map tZ) (l.map tZ)) = true
    have h : deq (tZ t) (tZ t) = true := by
      show deqs (dN t) (dN t) = true
      rw [dN_ints, deqs_ints, decide_eq_true rfl]
    rw [h, deqZ l]; rfl
theorem flatD_dN (l : List Nat) : (dN l).all flatD = true := List.all_eq_true.mpr fun d hd => by
  unfold dN at hd
  obtain ⟨n, _, rfl⟩ := List.mem_map.mp hd
  rfl
theorem flat_Z (l : List (List Nat)) : (l.map tZ).all flatD = true := List.all_eq_true.mpr fun d hd => by
  obtain ⟨t, _, rfl⟩ := List.mem_map.mp hd
  exact noLs_dN t
theorem Row.ok {r : D} (h : Row r) : rowD r = true ∧ dsh 7 r = true ∧ deq r r = true := by
  rcases h with ⟨l, rfl, hl⟩ | ⟨l, rfl, hl⟩
  · refine ⟨?_, ?_, ?_⟩
    · show ((dN l).all flatD && decide ((dN l).length ≤ 1000000)) = true
      rw [flatD_dN, dN_len, decide_eq_true (by omega)]; rfl
    · show dshs 6 (dN l) = true
      rw [dN_ints]; exact dshs_ints 6 _
    · show deqs (dN l) (dN l) = true
      rw [dN_ints, deqs_ints, decide_eq_true rfl]
  · refine ⟨?_, dshZ 5 l, deqZ l⟩
    show ((l.map tZ).all flatD && decide ((l.map tZ).length ≤ 1000000)) = true
    rw [flat_Z, List.length_map, decide_eq_true (by omega)]; rfl
theorem rows_dsh : ∀ {rs : List D}, (∀ r ∈ rs, Row r) → dshs 7 rs = true ∧ deqs rs rs = true ∧ rs.all rowD = true
  | [], _ => ⟨rfl, rfl, rfl⟩
  | r :: rs, h => by
    obtain ⟨h1, h2, h3⟩ := (h r List.mem_cons_self).ok
    obtain ⟨i1, i2, i3⟩ := rows_dsh fun x hx => h x (List.mem_cons_of_mem _ hx)
    refine ⟨?_, ?_, ?_⟩
    · show (dsh 7 r && dshs 7 rs) = true
      rw [h2, i1]; rfl
    · show (deq r r && deqs rs rs) = true
      rw [h3, i2]; rfl
    · rw [List.all_cons, h1, i3]; rfl
theorem rows_eq {rs : List D} (h : ∀ r ∈ rs, Row r) : gEq (.lst rs) (.lst rs) = .ok (.bl true) := by
  obtain ⟨h1, h2, _⟩ := rows_dsh h
  rw [gEq_s (x := .lst rs) (y := .lst rs) h1 h1]
  exact congrArg (fun b => Rs.ok (D.bl b)) h2
theorem app_lst {i : Nat} {e : Ee} {r : Env} {ds : List D} {d : D} (h : r[i]? = some (.own ds)) (he : e r = .ok d) (hl : ds.length ≤ 1000) : sApp i e r = .nx (r.set i (.own (ds ++ [d]))) := by
  rw [sApp_s, h]
  show (liftS r (e r) fun x => capS ds.length (.nx (r.set i (.own (ds ++ [x]))))) = _
  rw [he, liftS_ok, capS_ok (by omega)]
/-- what the law's lists are -/
theorem lists_ok {cs : List Nat} (pl : Pl cs) {m n : Nat} (hm : m ≤ 7) (hn : n ≤ 400) : ∃ rs vs a l, Pe cs a l ∧ vs.length = a ∧ (∀ r ∈ rs, Row r) ∧ rs.length ≤ 10 ∧ rs[1]? = some (.lst (dN vs)) ∧ rs[4]? = some (.lst ((allW m).map tZ)) ∧
    f_l_lists [.tup (dN cs), dI m, dI n] = .rn rs := by
  obtain ⟨a, l, p, hal, hl1, ha0, hl, S, hb, hp⟩ := pl.near
  obtain ⟨vs, Lw, L, els⟩ := least_all p
  have p' := pl.pu
  have hl5 := pl.len
  have hla : l * a ≤ 225 := by rw [Nat.mul_comm]; exact hb
  have enl := needless_ok p'
  have eg := gaps_ok p (Nat.le_refl (l * a))
  have ee := ends_ok p (Nat.le_refl (l * a)) (by omega)
  have eaw := all_with_ok hm
  have ec := count_ok p' hn
  obtain ⟨o, g⟩ := gap_is p
  obtain ⟨_, hoo⟩ := gap_far p hl g
  have hF398 : ∀ F, o = some F → F + 2 * a ≤ 398 := fun F z => by have := hoo F z; omega
  have hbk : 2 * a + 1 < 401 ∧ ∀ F, o = some F → F + 2 * a + 1 < 401 := ⟨by omega, fun F z => by have := hoo F z; omega⟩
  have ek := kidsD_ok p S g (by omega) hF398 hbk
  have hkl : (kidC cs o).length ≤ 40 := by
    have := (Pu.keeps p').len
    cases o with
    | none => exact this
    | some F => exact Nat.le_trans (List.length_filter_le _ _) this
  have r0 : Row (.lst (dN (cs.filter fun c => !decide (c ∈ keeps cs)))) := .inl ⟨_, rfl, by have := List.length_filter_le (fun c => !decide (c ∈ keeps cs)) cs; omega⟩
  have r1 : Row (.lst (dN vs)) := .inl ⟨_, rfl, by rw [Lw.len]; omega⟩
  have hgl : (gapsN cs (l * a)).length ≤ l * a := by
    unfold gapsN
    have := List.length_filter_le (fun n => !mkB cs n) (List.range (l * a))
    rwa [List.length_range] at this
  have r2 : Row (.lst (dN (gapsN cs (l * a)))) := .inl ⟨_, rfl, by omega⟩
  have r3 : Row (.lst (dN (endsN cs (l * a)))) := .inl ⟨_, rfl, by
    unfold endsN
    have := List.length_filter_le (fun g => cs.all fun c => mkB cs (g + c)) (gapsN cs (l * a))
    omega⟩
  have hlen : (allW m).length ≤ 39 := by
    unfold allW
    rw [lsort_len, List.length_map]; exact (lev_at hm).2
  have r4 : Row (.lst ((allW m).map tZ)) := .inr ⟨_, rfl, by omega⟩
  have r6 : Row (.lst ((lsort ((kidC cs o).map fun c => atoms (lessT (mkB cs) c) 401)).map tZ)) := .inr ⟨_, rfl, by rw [lsort_len, List.length_map]; omega⟩
  obtain ⟨kids, hkids⟩ : ∃ k, k = (lsort ((kidC cs o).map fun c => atoms (lessT (mkB cs) c) 401)).map tZ := ⟨_, rfl⟩
  rw [← hkids] at ek r6
  obtain ⟨gs, hgs⟩ : ∃ k, k = dN (gapsN cs (l * a)) := ⟨_, rfl⟩
  obtain ⟨es, hes⟩ : ∃ k, k = dN (endsN cs (l * a)) := ⟨_, rfl⟩
  obtain ⟨nl, hnl⟩ : ∃ k, k = dN (cs.filter fun c => !decide (c ∈ keeps cs)) := ⟨_, rfl⟩
  obtain ⟨aw, haw⟩ : ∃ k, k = (allW m).map tZ := ⟨_, rfl⟩
  rw [← hgs] at eg r2
  rw [← hes] at ee r3
  rw [← hnl] at enl r0
  rw [← haw] at eaw r4
  have el : gIx (.tup (dN cs)) (.int (-1)) = .ok (dI l) := by
    show ofO (atI (dN cs) (-1)) = _
    rw [ix_last hl]; rfl
  have first : nLst (aCons (toE (nCall f_needless (aCons (vI 0) aNil))) (aCons (toE (nCall f_least_sums (aCons (vI 0) aNil))) (aCons (toE (nCall f_gaps_of (aCons (vI 0) aNil))) (aCons (toE (nCall f_ends_of (aCons (vI 0) aNil))) (aCons (eCall f_all_with (aCons (vI 1) aNil)) aNil))))) (startE 4 [.tup (dN cs), dI m, dI n]) = .ok [.lst nl, .lst (dN vs), .lst gs, .lst es, .lst aw] := by
    simp [startE, enl, els, eg, ee, eaw]
  -- the ways
  obtain ⟨ws, hws, hws2, e2⟩ : ∃ ws : List D, ws.length ≤ 1 ∧ (∀ r ∈ ws, Row r) ∧ (sIf (tBl (op2 gLe (eCall f_count_ways (aCons (vI 0) (aCons (vI 2) aNil))) (cst (.int 200)))) (sApp 3 (toE (nCall f_all_ways (aCons (vI 0) (aCons (vI 2) aNil))))) sNx) [.imm (.tup (dN cs)), .imm (dI m), .imm (dI n), .own [.lst nl, .lst (dN vs), .lst gs, .lst es, .lst aw]] = .nx [.imm (.tup (dN cs)), .imm (dI m), .imm (dI n), .own ([.lst nl, .lst (dN vs), .lst gs, .lst es, .lst aw] ++ ws)] := by
    by_cases h : ways cs n ≤ 200
    · have ea := all_ok p' hn (by omega) h
      have hW := W_len cs n p'.pos
      have hg : ((ways cs n : Nat) : Int) ≤ 200 := by omega
      have ht : tBl (op2 gLe (eCall f_count_ways (aCons (vI 0) (aCons (vI 2) aNil))) (cst (.int 200))) [.imm (.tup (dN cs)), .imm (dI m), .imm (dI n), .own [.lst nl, .lst (dN vs), .lst gs, .lst es, .lst aw]] = .ok true := by simp [ec, hg]
      refine ⟨[.lst ((W cs n).map tZ)], by simp, fun r hr => by rw [List.mem_singleton.mp hr]; exact .inr ⟨_, rfl, by omega⟩, ?_⟩
      rw [sIf_s, ht, liftS_ok, if_pos rfl]
      have e : toE (nCall f_all_ways (aCons (vI 0) (aCons (vI 2) aNil))) [.imm (.tup (dN cs)), .imm (dI m), .imm (dI n), .own [.lst nl, .lst (dN vs), .lst gs, .lst es, .lst aw]] = .ok (.lst ((W cs n).map tZ)) := by
        have ea' : f_all_ways [.tup (dN cs), dI n] = .rn ((W cs n).map tZ) := ea
        simp [ea']
      exact app_lst (i := 3) (r := [.imm (.tup (dN cs)), .imm (dI m), .imm (dI n), .own [.lst nl, .lst (dN vs), .lst gs, .lst es, .lst aw]]) rfl e (by simp)
    · have hg : ¬ ((ways cs n : Nat) : Int) ≤ 200 := by omega
      have ht : tBl (op2 gLe (eCall f_count_ways (aCons (vI 0) (aCons (vI 2) aNil))) (cst (.int 200))) [.imm (.tup (dN cs)), .imm (dI m), .imm (dI n), .own [.lst nl, .lst (dN vs), .lst gs, .lst es, .lst aw]] = .ok false := by simp [ec, hg]
      refine ⟨[], by simp, fun r hr => (by cases hr), ?_⟩
      rw [sIf_s, ht, liftS_ok, if_neg (by simp), List.append_nil]
      rfl
  obtain ⟨ks, hks, hks2, e3⟩ : ∃ ks : List D, ks.length ≤ 1 ∧ (∀ r ∈ ks, Row r) ∧ (sIf (tBl (op2 gLt (op2 gIx (vI 0) (op1 gNeg (cst (.int 1)))) (cst (.int 14)))) (sApp 3 (toE (nCall f_children_of (aCons (vI 0) aNil)))) sNx) [.imm (.tup (dN cs)), .imm (dI m), .imm (dI n), .own ([.lst nl, .lst (dN vs), .lst gs, .lst es, .lst aw] ++ ws)] = .nx [.imm (.tup (dN cs)), .imm (dI m), .imm (dI n), .own ([.lst nl, .lst (dN vs), .lst gs, .lst es, .lst aw] ++ ws ++ ks)] := by
    by_cases h : l < 14
    · have hg : (l : Int) < 14 := by omega
      have ht : tBl (op2 gLt (op2 gIx (vI 0) (op1 gNeg (cst (.int 1)))) (cst (.int 14))) [.imm (.tup (dN cs)), .imm (dI m), .imm (dI n), .own ([.lst nl, .lst (dN vs), .lst gs, .lst es, .lst aw] ++ ws)] = .ok true := by simp [el, hg]
      refine ⟨[.lst kids], by simp, fun r hr => by rw [List.mem_singleton.mp hr]; exact r6, ?_⟩
      rw [sIf_s, ht, liftS_ok, if_pos rfl]
      have e : toE (nCall f_children_of (aCons (vI 0) aNil)) [.imm (.tup (dN cs)), .imm (dI m), .imm (dI n), .own ([.lst nl, .lst (dN vs), .lst gs, .lst es, .lst aw] ++ ws)] = .ok (.lst kids) := by
        simp [ek]
      exact app_lst (i := 3) (r := [.imm (.tup (dN cs)), .imm (dI m), .imm (dI n), .own ([.lst nl, .lst (dN vs), .lst gs, .lst es, .lst aw] ++ ws)]) rfl e (by rw [List.length_append]; show 5 + ws.length ≤ 1000; omega)
    · have hg : ¬ (l : Int) < 14 := by omega
      have ht : tBl (op2 gLt (op2 gIx (vI 0) (op1 gNeg (cst (.int 1)))) (cst (.int 14))) [.imm (.tup (dN cs)), .imm (dI m), .imm (dI n), .own ([.lst nl, .lst (dN vs), .lst gs, .lst es, .lst aw] ++ ws)] = .ok false := by simp [el, hg]
      refine ⟨[], by simp, fun r hr => (by cases hr), ?_⟩
      rw [sIf_s, ht, liftS_ok, if_neg (by simp), List.append_nil]
      rfl
  refine ⟨[.lst nl, .lst (dN vs), .lst gs, .lst es, .lst aw] ++ ws ++ ks, vs, a, l, p, Lw.len, fun r hr => ?_, by rw [List.length_append, List.length_append]; show 5 + ws.length + ks.length ≤ 10; omega, rfl, by rw [haw]; rfl, ?_⟩
  · rcases List.mem_append.mp hr with hr | hr
    · rcases List.mem_append.mp hr with hr | hr
      · simp only [List.mem_cons, List.not_mem_nil, or_false] at hr
        rcases hr with rfl | rfl | rfl | rfl | rfl
        · exact r0
        · exact r1
        · exact r2
        · exact r3
        · exact r4
      · exact hws2 r hr
    · exact hks2 r hr
  · have hnls : noLs [.tup (dN cs), dI m, dI n] = true := by
      show (noLs (dN cs) && _) = true
      rw [noLs_dN]; rfl
    have run : ∀ o, b_l_lists (startE 4 [.tup (dN cs), dI m, dI n]) = .rn o → f_l_lists [.tup (dN cs), dI m, dI n] = .rn o := fun o ho => by
      show runF false 4 3 b_l_lists _ = _
      unfold runF
      rw [if_pos (show [D.tup (dN cs), dI m, dI n].length = 3 from rfl), hnls, ho]
      rfl
    refine run _ ?_
    unfold b_l_lists
    refine (q_setN _ first).trans ?_
    refine (q_nx e2).trans ?_
    refine (q_nx e3).trans ?_
    rfl
theorem lev_ne : ((List.range 8).all fun m => !(lev m).isEmpty) = true := by decide +kernel
theorem gaps_first {m : Nat} (hm : m ≤ 7) : ∃ t ts g, allW m = t :: ts ∧ g.length = m ∧ f_gaps_of [tZ t] = .rn (dN g) := by
  have hne : allW m ≠ [] := by
    have h := List.all_eq_true.mp lev_ne m (List.mem_range.mpr (by omega))
    intro z
    have := congrArg List.length z
    unfold allW at this
    rw [lsort_len, List.length_map, List.length_nil] at this
    have := List.length_eq_zero_iff.mp this
    rw [this] at h
    cases h
  obtain ⟨t, ts, e⟩ := List.exists_cons_of_ne_nil hne
  have ht : t ∈ allW m := by rw [e]; exact List.mem_cons_self
  obtain ⟨G, hG, eG⟩ := List.mem_map.mp (mem_lsort.mp ht)
  have N := nd_of hm hG
  obtain ⟨a, p, _⟩ := N.pe
  have eg : f_gaps_of [tZ (aG G)] = _ := gaps_all p N.sgk
  have ok := (lev_at hm).1 G hG
  unfold okG at ok
  rw [Bool.and_eq_true, Bool.and_eq_true] at ok
  have hgl := of_decide_eq_true ok.1.2
  rw [N.kB] at eg
  have eG : aG G = t := eG
  rw [eG] at eg
  exact ⟨t, ts, _, e, hgl, eg⟩
theorem law_true (ns : List Int) (hn : ns.length ≤ 63) : f_law [.scr ns] = .rt (.bl true) := by
  obtain ⟨cs, pl, e0⟩ := plain_ok hn 2
  have e0 : f_l_plain [.scr ns, .int 2] = .rt (.tup (dN cs)) := e0
  have ec0 : f_l_cell [.scr ns, .int 0] = .rt (.int (cellI ns 0)) := cell_ok ns 0
  have ec1 : f_l_cell [.scr ns, .int 1] = .rt (.int (cellI ns 1)) := cell_ok ns 1
  obtain ⟨m, hm, em⟩ : ∃ m : Nat, m < 6 ∧ cellI ns 0 % 6 = (m : Int) := ⟨(cellI ns 0 % 6).toNat, by omega, by omega⟩
  obtain ⟨n, hn', en⟩ : ∃ n : Nat, n < 31 ∧ cellI ns 1 % 31 = (n : Int) := ⟨(cellI ns 1 % 31).toNat, by omega, by omega⟩
  have em6 : gMod (.int (cellI ns 0)) (.int 6) = .ok (dI m) := by rw [gMod_s (by omega), em]
  have em31 : gMod (.int (cellI ns 1)) (.int 31) = .ok (dI n) := by rw [gMod_s (by omega), en]
  obtain ⟨rs, vs, a, l, p, hvs, hrow, hlen, h1, h4, elists⟩ := lists_ok pl (m := m) (n := n) (by omega) (by omega)
  obtain ⟨_, _, hall⟩ := rows_dsh hrow
  obtain ⟨t, ts, g, eW, hg, egaps⟩ := gaps_first (m := m) (by omega)
  refine run0_rt rfl rfl ?_
  unfold b_law
  refine (q_set (.tup (dN cs)) (by simp [startE, e0])).trans ?_
  refine (q_set (dI m) (by simp [startE, ec0, em6])).trans ?_
  refine (q_set (dI n) (by simp [startE, ec1, em31])).trans ?_
  refine (q_set (.lst rs) (by simp [startE, elists])).trans ?_
  show sMidR 4 5 6 _ [.imm (.scr ns), .imm (.tup (dN cs)), .imm (dI m), .imm (dI n), .imm (.lst rs), .no, .no] = _
  have hrest : restOk ([.imm (.scr ns), .imm (.tup (dN cs)), .imm (dI m), .imm (dI n), .imm (.lst rs), .no, .no].set 4 .no) = true := by
    show (true && (noLs (dN cs) && (true && (true && (true && (true && (true && true))))))) = true
    rw [noLs_dN]; rfl
  have hcond : (rs.all rowD && decide (rs.length ≤ 1000000) && restOk ([.imm (.scr ns), .imm (.tup (dN cs)), .imm (dI m), .imm (dI n), .imm (.lst rs), .no, .no].set 4 .no) && decide (4 ≠ 5 ∧ 4 ≠ 6 ∧ 5 ≠ 6 ∧ 5 < 7 ∧ 6 < 7)) = true := by
    rw [hall, hrest, decide_eq_true (by omega)]; rfl
  have ret : ∀ g : Es, g [.imm (.scr ns), .imm (.tup (dN cs)), .imm (dI m), .imm (dI n), .no, .imm (.lst rs), .no] = .rt (.bl true) → sMidR 4 5 6 g [.imm (.scr ns), .imm (.tup (dN cs)), .imm (dI m), .imm (dI n), .imm (.lst rs), .no, .no] = .rt (.bl true) := fun gg hgg => by
    show (if (rs.all rowD && decide (rs.length ≤ 1000000) && restOk ([.imm (.scr ns), .imm (.tup (dN cs)), .imm (dI m), .imm (dI n), .imm (.lst rs), .no, .no].set 4 .no) && decide (4 ≠ 5 ∧ 4 ≠ 6 ∧ 5 ≠ 6 ∧ 5 < 7 ∧ 6 < 7)) = true then
      (match gg [.imm (.scr ns), .imm (.tup (dN cs)), .imm (dI m), .imm (dI n), .no, .imm (.lst rs), .no] with | .rt d => So.rt d | .rn ds => .rn ds | _ => .bad) else .bad) = _
    rw [if_pos hcond, hgg]
  refine ret _ (q_ret _ ?_)
  have eqr := rows_eq hrow
  have i1 : gIx (.lst rs) (.int 1) = .ok (.lst (dN vs)) := by
    show ofO (atI rs ((1 : Nat) : Int)) = _
    rw [atI_nat h1]; rfl
  have i4 : gIx (.lst rs) (.int 4) = .ok (.lst ((allW m).map tZ)) := by
    show ofO (atI rs ((4 : Nat) : Int)) = _
    rw [atI_nat h4]; rfl
  have i0 : gIx (.lst ((allW m).map tZ)) (.int 0) = .ok (tZ t) := by
    rw [eW]
    show ofO (atI (tZ t :: ts.map tZ) ((0 : Nat) : Int)) = _
    rw [atI_nat (v := tZ t) rfl]; rfl
  have ix := p.ix0
  have l1 : gLen (.lst (dN vs)) = .ok (dI a) := by rw [gLen_l, dN_len, hvs]
  have l2 : gLen (.lst (dN g)) = .ok (dI m) := by rw [gLen_l, dN_len, hg]
  have qa : gEq (dI a) (dI a) = .ok (.bl true) := by rw [gEq_ii, beq_self_eq_true]
  have qm : gEq (dI m) (dI m) = .ok (.bl true) := by rw [gEq_ii, beq_self_eq_true]
  have f1 : op2 gEq (toE (nCall f_l_lists (aCons (vI 1) (aCons (vI 2) (aCons (vI 3) aNil))))) (vI 5) [.imm (.scr ns), .imm (.tup (dN cs)), .imm (dI m), .imm (dI n), .no, .imm (.lst rs), .no] = .ok (.bl true) := by
    simp [elists, eqr]
  have f2 : op2 gEq (op1 gLen (op2 gIx (vI 5) (cst (.int 1)))) (op2 gIx (vI 1) (cst (.int 0))) [.imm (.scr ns), .imm (.tup (dN cs)), .imm (dI m), .imm (dI n), .no, .imm (.lst rs), .no] = .ok (.bl true) := by
    simp [i1, ix, l1, -gLen_l, qa, -gEq_ii]
  have f3 : op2 gEq (vI 2) (op1 gLen (toE (nCall f_gaps_of (aCons (op2 gIx (op2 gIx (vI 5) (cst (.int 4))) (cst (.int 0))) aNil)))) [.imm (.scr ns), .imm (.tup (dN cs)), .imm (dI m), .imm (dI n), .no, .imm (.lst rs), .no] = .ok (.bl true) := by
    simp [i4, i0, egaps, l2, -gLen_l, qm, -gEq_ii]
  rw [eAnd_s, f1, Rs.bind_ok, eAnd_s, f2, Rs.bind_ok]
  exact f3
end GP

namespace GP
open PySem PySem.Spec PyProof.Rows L2 GM
section
variable [Tb] {P : Program} {w : World} {K : PySem.W.Frag} {mg : Str → Option Value} {base : Heap}
def topS (i : Nat) : Stmt := PySem.Challenge.pw_coinyard_k28_nothing_is_kept.main.body.getD i (.Pass ⟨0, 0, 0, 0⟩)
abbrev s_is_within : Stmt := topS 10
theorem sc_is_within : FnScope ["thing", "low", "high"] ["thing", "low", "high"] (defScope s_is_within) := ⟨rfl, rfl, rfl, by decide +kernel, rfl, by decide +kernel, by decide +kernel⟩
theorem ok_is_within  (m_int : mg "int" = none) (m_isinstance : mg "isinstance" = none) (m_bool : mg "bool" = none) {fa : Addr} {fd : FuncData} (F : Fun K "is_within" "is_within" s_is_within fa fd) : FnOk P w K mg base (L2.CX P w) 1 fa fd ["thing", "low", "high"] (spF K mg f_is_within) :=
  fn_ok (k := 0) F sc_is_within fun cdv A outer s H E hr => by
    have nd := sc_is_within.nd
    exact (gss_one (gs_ret (ge_and (ge_isi (x := "int") isT_int (by rfl) m_isinstance (by rfl) m_int (by decide +kernel) (gv 0)) (ge_and (ge_not (ge_isi (x := "bool") isT_bool (by rfl) m_isinstance (by rfl) m_bool (by decide +kernel) (gv 0))) (ge_one (ge_chLL (gv 1) (gv 0) (gv 2)))))))
abbrev s_checked : Stmt := topS 11
theorem sc_checked : FnScope ["purse", "last", "coin"] ["purse"] (defScope s_checked) := ⟨rfl, rfl, rfl, by decide +kernel, rfl, by decide +kernel, by decide +kernel⟩
theorem ok_checked {t_MOST_COINS : Tok} {t_MOST_COIN : Tok} {C_BadPurse : Addr} (D_is_within : DefOk P w K mg base "is_within" 1 ["thing", "low", "high"] f_is_within) (m_tuple : mg "tuple" = none) (m_isinstance : mg "isinstance" = none) (m_len : mg "len" = none) (c_MOST_COINS : mg "MOST_COINS" = some (.int 40 t_MOST_COINS)) (c_MOST_COIN : mg "MOST_COIN" = some (.int 400 t_MOST_COIN)) (X_BadPurse : ExC K mg "BadPurse" C_BadPurse) {fa : Addr} {fd : FuncData} (F : Fun K "checked" "checked" s_checked fa fd) : FnOk P w K mg base (L2.CX P w) 2 fa fd ["purse"] (spF K mg f_checked) :=
  fn_ok (k := 1) F sc_checked fun cdv A outer s H E hr => by
    have nd := sc_checked.nd
    exact (gss_cons (gs_if (gt_w (gw_or (gt_not (gt_tru (ge_isi (x := "tuple") isT_tuple (by rfl) m_isinstance (by rfl) m_tuple (by decide +kernel) (gv 0)))) (gw_or1 (gt_not (gt_chLL ge_int (ge_len (by rfl) m_len (gv 0)) (ge_gint (by rfl) c_MOST_COINS)))))) (gss_one (gs_rz (c := "BadPurse") rfl X_BadPurse)) gss_nil)
  (gss_cons (gs_st 1 nd ge_int)
  (gss_cons (gs_for (vs := [2]) (passes_of rfl) rfl (gi_seq (gv 0)) (gn_nm 2 nd)
  (gss_cons (gs_if (gt_not (gt_tru (ge_cd D_is_within hr (ga_cons (gv 2) (ga_cons (ge_add (gv 1) ge_int) (ga_cons (ge_gint (by rfl) c_MOST_COIN) ga_nil)))))) (gss_one (gs_rz (c := "BadPurse") rfl X_BadPurse)) gss_nil)
  (gss_one (gs_st 1 nd (gv 2)))))
  (gss_one (gs_ret (gv 0))))))
abbrev s_common : Stmt := topS 12
theorem sc_common : FnScope ["one", "other"] ["one", "other"] (defScope s_common) := ⟨rfl, rfl, rfl, by decide +kernel, rfl, by decide +kernel, by decide +kernel⟩
theorem ok_common   {fa : Addr} {fd : FuncData} (F : Fun K "common" "common" s_common fa fd) : FnOk P w K mg base (L2.CX P w) 1 fa fd ["one", "other"] (spF K mg f_common) :=
  fn_ok (k := 0) F sc_common fun cdv A outer s H E hr => by
    have nd := sc_common.nd
    exact (gss_cons (gs_while fuel (passes_of rfl) (gt_tru (gv 1))
  (gss_one (gs_pr (i := 0) (j := 1) rfl nd (gv 1) (ge_mod (gv 0) (gv 1)))))
  (gss_one (gs_ret (gv 0))))
abbrev s_divisor_of : Stmt := topS 13
theorem sc_divisor_of : FnScope ["purse", "found", "coin"] ["purse"] (defScope s_divisor_of) := ⟨rfl, rfl, rfl, by decide +kernel, rfl, by decide +kernel, by decide +kernel⟩
theorem ok_divisor_of  (D_checked : DefOk P w K mg base "checked" 2 ["purse"] f_checked) (D_common : DefOk P w K mg base "common" 1 ["one", "other"] f_common) {fa : Addr} {fd : FuncData} (F : Fun K "divisor_of" "divisor_of" s_divisor_of fa fd) : FnOk P w K mg base (L2.CX P w) 3 fa fd ["purse"] (spF K mg f_divisor_of) :=
  fn_ok (k := 2) F sc_divisor_of fun cdv A outer s H E hr => by
    have nd := sc_divisor_of.nd
    exact (gss_cons (gs_st 1 nd ge_int)
  (gss_cons (gs_for (vs := [2]) (passes_of rfl) rfl (gi_seq (ge_cd D_checked hr (ga_cons (gv 0) ga_nil))) (gn_nm 2 nd)
  (gss_one (gs_st 1 nd (ge_cd D_common hr (ga_cons (gv 1) (ga_cons (gv 2) ga_nil))))))
  (gss_one (gs_ret (gv 1)))))
abbrev s_table_of : Stmt := topS 14
theorem sc_table_of : FnScope ["coins", "last", "found", "number", "coin"] ["coins", "last"] (defScope s_table_of) := ⟨rfl, rfl, rfl, by decide +kernel, rfl, by decide +kernel, by decide +kernel⟩
theorem ok_table_of  (m_range : mg "range" = none) {fa : Addr} {fd : FuncData} (F : Fun K "table_of" "table_of" s_table_of fa fd) : FnOk P w K mg base (L2.CX P w) 1 fa fd ["coins", "last"] (spF K mg f_table_of) :=
  fn_ok (k := 0) F sc_table_of fun cdv A outer s H E hr => by
    have nd := sc_table_of.nd
    exact (gss_cons (gs_stN 2 nd (gn_lst (gp_cons ge_bl gp_nil)))
  (gss_cons (gs_for (vs := [3]) (passes_of rfl) rfl (gi_r2 (by rfl) m_range ge_int (ge_add (gv 1) ge_int)) (gn_nm 3 nd)
  (gss_one (gs_appD 2 (ge_ne hr (GN.ge (gn_comp (p := false) (own := [("coin", 4)]) rfl nd (gi_seq (gv 0)) (blkOk_by (own := [("coin", 4)]) (N := ["coins", "last", "found", "number", "coin"]) (sc := defScope s_table_of) (by decide +kernel)) (fun _ _ _ _ _ => (gn_nm 4 nd)) (fun _ _ _ _ _ => (gts_one (gt_w (gw_and (gt_le (gv 4) (gv 3)) (gw_and1 (gt_tru (ge_ix (fun _ _ => rfl) (go 2) (ge_sub (gv 3) (gv 4))))))))) (fun _ _ _ _ _ => ge_int))) (GN.ge (gn_lst gp_nil))))))
  (gss_one (gs_rO 2))))
abbrev s_needed : Stmt := topS 15
theorem sc_needed : FnScope ["coins", "found", "coin"] ["coins"] (defScope s_needed) := ⟨rfl, rfl, rfl, by decide +kernel, rfl, by decide +kernel, by decide +kernel⟩
theorem ok_needed  (D_table_of : DefOk P w K mg base "table_of" 1 ["coins", "last"] f_table_of) {fa : Addr} {fd : FuncData} (F : Fun K "needed" "needed" s_needed fa fd) : FnOk P w K mg base (L2.CX P w) 2 fa fd ["coins"] (spF K mg f_needed) :=
  fn_ok (k := 1) F sc_needed fun cdv A outer s H E hr => by
    have nd := sc_needed.nd
    exact (gss_cons (gs_stN 1 nd (gn_lst gp_nil))
  (gss_cons (gs_for (vs := [2]) (passes_of rfl) rfl (gi_seq (gv 0)) (gn_nm 2 nd)
  (gss_one (gs_if (gt_not (gt_tru (ge_ix (fun _ _ => rfl) (GN.ge (gn_cd D_table_of hr (ga_cons (go 1) (ga_cons (gv 2) ga_nil)))) (gv 2)))) (gss_one (gs_appD 1 (gv 2))) gss_nil)))
  (gss_one (gs_rO 1))))
abbrev s_needless : Stmt := topS 16
theorem sc_needless : FnScope ["purse", "some", "coin"] ["purse"] (defScope s_needless) := ⟨rfl, rfl, rfl, by decide +kernel, rfl, by decide +kernel, by decide +kernel⟩
theorem ok_needless  (D_needed : DefOk P w K mg base "needed" 2 ["coins"] f_needed) (D_checked : DefOk P w K mg base "checked" 2 ["purse"] f_checked) {fa : Addr} {fd : FuncData} (F : Fun K "needless" "needless" s_needless fa fd) : FnOk P w K mg base (L2.CX P w) 3 fa fd ["purse"] (spF K mg f_needless) :=
  fn_ok (k := 2) F sc_needless fun cdv A outer s H E hr => by
    have nd := sc_needless.nd
    exact (gss_cons (gs_st 1 nd (GN.ge (gn_cd D_needed hr (ga_cons (ge_cd D_checked hr (ga_cons (gv 0) ga_nil)) ga_nil))))
  (gss_one (gs_retN (gn_comp (p := false) (own := [("coin", 2)]) rfl nd (gi_seq (gv 0)) (blkOk_by (own := [("coin", 2)]) (N := ["purse", "some", "coin"]) (sc := defScope s_needless) (by decide +kernel)) (fun _ _ _ _ _ => (gn_nm 2 nd)) (fun _ _ _ _ _ => (gts_one (gt_notIn rfl (gv 2) (gv 1)))) (fun _ _ _ _ _ => (gv 2))))))
abbrev s_least_purse : Stmt := topS 17
theorem sc_least_purse : FnScope ["purse"] ["purse"] (defScope s_least_purse) := ⟨rfl, rfl, rfl, by decide +kernel, rfl, by decide +kernel, by decide +kernel⟩
theorem ok_least_purse  (D_needed : DefOk P w K mg base "needed" 2 ["coins"] f_needed) (D_checked : DefOk P w K mg base "checked" 2 ["purse"] f_checked) (m_tuple : mg "tuple" = none) {fa : Addr} {fd : FuncData} (F : Fun K "least_purse" "least_purse" s_least_purse fa fd) : FnOk P w K mg base (L2.CX P w) 3 fa fd ["purse"] (spF K mg f_least_purse) :=
  fn_ok (k := 2) F sc_least_purse fun cdv A outer s H E hr => by
    have nd := sc_least_purse.nd
    exact (gss_one (gs_ret (ge_tuple (by rfl) m_tuple (GN.ge (gn_cd D_needed hr (ga_cons (ge_cd D_checked hr (ga_cons (gv 0) ga_nil)) ga_nil))))))
abbrev s_least_sums : Stmt := topS 19
theorem sc_least_sums : FnScope ["purse", "first", "found", "rest", "todo", "here", "coin"] ["purse"] (defScope s_least_sums) := ⟨rfl, rfl, rfl, by decide +kernel, rfl, by decide +kernel, by decide +kernel⟩
theorem ok_least_sums  (D_checked : DefOk P w K mg base "checked" 2 ["purse"] f_checked) (m_range : mg "range" = none) {fa : Addr} {fd : FuncData} (F : Fun K "least_sums" "least_sums" s_least_sums fa fd) : FnOk P w K mg base (L2.CX P w) 3 fa fd ["purse"] (spF K mg f_least_sums) :=
  fn_ok (k := 2) F sc_least_sums fun cdv A outer s H E hr => by
    have nd := sc_least_sums.nd
    exact (gss_cons (gs_st 1 nd (ge_ix (fun _ _ => rfl) (ge_cd D_checked hr (ga_cons (gv 0) ga_nil)) ge_int))
  (gss_cons (gs_setLc 2 (p := false) (own := [("rest", 3)]) rfl nd rfl rfl (sw_true rfl rfl rfl (by decide +kernel)) (gi_r1 (by rfl) m_range (gv 1)) (blkOk_by (own := [("rest", 3)]) (N := ["purse", "first", "found", "rest", "todo", "here", "coin"]) (sc := defScope s_least_sums) (by decide +kernel)) (fun _ _ _ _ _ => (gn_nm 3 nd)) (fun _ _ _ _ _ => gts_nil) (fun _ _ _ _ _ => ge_non))
  (gss_cons (gs_putD 2 ge_int ge_int)
  (gss_cons (gs_stN 4 nd (gn_lst (gp_cons ge_int gp_nil)))
  (gss_cons (gs_while fuel (passes_of rfl) (gt_tru (go 4))
  (gss_cons (gs_pi 5 2 4 nd)
  (gss_one (gs_for (vs := [6]) (passes_of rfl) rfl (gi_seq (ge_slT (gv 0) (go_at ge_int) go_no)) (gn_nm 6 nd)
  (gss_cons (gs_st 3 nd (ge_mod (ge_add (gv 5) (gv 6)) (gv 1)))
  (gss_one (gs_if (gt_w (gw_or (gt_isN (ge_ix (fun _ _ => rfl) (go 2) (gv 3))) (gw_or1 (gt_lt (ge_add (gv 5) (gv 6)) (ge_ix (fun _ _ => rfl) (go 2) (gv 3)))))) (gss_cons (gs_putD 2 (ge_add (gv 5) (gv 6)) (gv 3))
  (gss_one (gs_appD 4 (gv 3)))) gss_nil)))))))
  (gss_one (gs_rO 2)))))))
abbrev s_is_made : Stmt := topS 20
theorem sc_is_made : FnScope ["least", "number", "sum_here"] ["least", "number"] (defScope s_is_made) := ⟨rfl, rfl, rfl, by decide +kernel, rfl, by decide +kernel, by decide +kernel⟩
theorem ok_is_made  (m_len : mg "len" = none) {fa : Addr} {fd : FuncData} (F : Fun K "is_made" "is_made" s_is_made fa fd) : FnOk P w K mg base (L2.CX P w) 1 fa fd ["least", "number"] (spF K mg f_is_made) :=
  fn_ok (k := 0) F sc_is_made fun cdv A outer s H E hr => by
    have nd := sc_is_made.nd
    exact (gss_cons (gs_st 2 nd (ge_ix (fun _ _ => rfl) (gv 0) (ge_mod (gv 1) (ge_len (by rfl) m_len (gv 0)))))
  (gss_one (gs_ret (ge_and (ge_notN (gv 2)) (ge_one (ge_le (gv 2) (gv 1)))))))
abbrev s_look_ends : Stmt := topS 22
theorem sc_look_ends : FnScope ["purse"] ["purse"] (defScope s_look_ends) := ⟨rfl, rfl, rfl, by decide +kernel, rfl, by decide +kernel, by decide +kernel⟩
theorem ok_look_ends {C_Endless : Addr} (D_divisor_of : DefOk P w K mg base "divisor_of" 3 ["purse"] f_divisor_of) (X_Endless : ExC K mg "Endless" C_Endless) {fa : Addr} {fd : FuncData} (F : Fun K "look_ends" "look_ends" s_look_ends fa fd) : FnOk P w K mg base (L2.CX P w) 4 fa fd ["purse"] (spF K mg f_look_ends) :=
  fn_ok (k := 3) F sc_look_ends fun cdv A outer s H E hr => by
    have nd := sc_look_ends.nd
    exact (gss_one (gs_if (gt_gt (ge_cd D_divisor_of hr (ga_cons (gv 0) ga_nil)) ge_int) (gss_one (gs_rz (c := "Endless") rfl X_Endless)) gss_nil))
abbrev s_gaps_of : Stmt := topS 23
theorem sc_gaps_of : FnScope ["purse", "found", "rest", "least"] ["purse"] (defScope s_gaps_of) := ⟨rfl, rfl, rfl, by decide +kernel, rfl, by decide +kernel, by decide +kernel⟩
theorem ok_gaps_of  (D_look_ends : DefOk P w K mg base "look_ends" 4 ["purse"] f_look_ends) (D_least_sums : DefOk P w K mg base "least_sums" 3 ["purse"] f_least_sums) (m_enumerate : mg "enumerate" = none) (m_range : mg "range" = none) (m_list : mg "list" = none) (m_sorted : mg "sorted" = none) {fa : Addr} {fd : FuncData} (F : Fun K "gaps_of" "gaps_of" s_gaps_of fa fd) : FnOk P w K mg base (L2.CX P w) 5 fa fd ["purse"] (spF K mg f_gaps_of) :=
  fn_ok (k := 4) F sc_gaps_of fun cdv A outer s H E hr => by
    have nd := sc_gaps_of.nd
    exact (gss_cons (gs_drop (ge_cd D_look_ends hr (ga_cons (gv 0) ga_nil)))
  (gss_cons (gs_stN 1 nd (gn_lst gp_nil))
  (gss_cons (gs_for (vs := [2, 3]) (passes_of rfl) rfl (gi_enumA (by rfl) m_enumerate (GN.ge (gn_cd D_least_sums hr (ga_cons (gv 0) ga_nil)))) (gn_tp 2 3 rfl nd)
  (gss_one (gs_extD 1 (gn_listR rfl (by rfl) m_list (gr_3 (by rfl) m_range (gv 2) (gv 3) (ge_ix (fun _ _ => rfl) (gv 0) ge_int)) (isRg_3 _ _ _)))))
  (gss_one (gs_retN (gn_sorted (by rfl) m_sorted (go 1)))))))
abbrev s_greatest_gap : Stmt := topS 24
theorem sc_greatest_gap : FnScope ["purse", "most"] ["purse"] (defScope s_greatest_gap) := ⟨rfl, rfl, rfl, by decide +kernel, rfl, by decide +kernel, by decide +kernel⟩
theorem ok_greatest_gap  (D_look_ends : DefOk P w K mg base "look_ends" 4 ["purse"] f_look_ends) (D_least_sums : DefOk P w K mg base "least_sums" 3 ["purse"] f_least_sums) (m_max : mg "max" = none) {fa : Addr} {fd : FuncData} (F : Fun K "greatest_gap" "greatest_gap" s_greatest_gap fa fd) : FnOk P w K mg base (L2.CX P w) 5 fa fd ["purse"] (spF K mg f_greatest_gap) :=
  fn_ok (k := 4) F sc_greatest_gap fun cdv A outer s H E hr => by
    have nd := sc_greatest_gap.nd
    exact (gss_cons (gs_drop (ge_cd D_look_ends hr (ga_cons (gv 0) ga_nil)))
  (gss_cons (gs_st 1 nd (ge_sub (ge_max rfl (by rfl) m_max (GN.ge (gn_cd D_least_sums hr (ga_cons (gv 0) ga_nil)))) (ge_ix (fun _ _ => rfl) (gv 0) ge_int)))
  (gss_cons (gs_if (gt_lt (gv 1) ge_int) (gss_one (gs_ret ge_non)) gss_nil)
  (gss_one (gs_ret (gv 1))))))
abbrev s_ends_of : Stmt := topS 25
theorem sc_ends_of : FnScope ["purse", "some", "least", "found", "gap", "coin"] ["purse"] (defScope s_ends_of) := ⟨rfl, rfl, rfl, by decide +kernel, rfl, by decide +kernel, by decide +kernel⟩
theorem ok_ends_of  (D_gaps_of : DefOk P w K mg base "gaps_of" 5 ["purse"] f_gaps_of) (D_least_sums : DefOk P w K mg base "least_sums" 3 ["purse"] f_least_sums) (D_is_made : DefOk P w K mg base "is_made" 1 ["least", "number"] f_is_made) {fa : Addr} {fd : FuncData} (F : Fun K "ends_of" "ends_of" s_ends_of fa fd) : FnOk P w K mg base (L2.CX P w) 6 fa fd ["purse"] (spF K mg f_ends_of) :=
  fn_ok (k := 5) F sc_ends_of fun cdv A outer s H E hr => by
    have nd := sc_ends_of.nd
    exact (gss_cons (gs_st 1 nd (GN.ge (gn_cd D_gaps_of hr (ga_cons (gv 0) ga_nil))))
  (gss_cons (gs_st 2 nd (GN.ge (gn_cd D_least_sums hr (ga_cons (gv 0) ga_nil))))
  (gss_cons (gs_stN 3 nd (gn_lst gp_nil))
  (gss_cons (gs_for (vs := [4]) (passes_of rfl) rfl (gi_seq (gv 1)) (gn_nm 4 nd)
  (gss_one (gs_if (gt_not (gt_tru (GN.ge (gn_comp (p := false) (own := [("coin", 5)]) rfl nd (gi_seq (gv 0)) (blkOk_by (own := [("coin", 5)]) (N := ["purse", "some", "least", "found", "gap", "coin"]) (sc := defScope s_ends_of) (by decide +kernel)) (fun _ _ _ _ _ => (gn_nm 5 nd)) (fun _ _ _ _ _ => (gts_one (gt_not (gt_tru (ge_cd D_is_made hr (ga_cons (gv 2) (ga_cons (ge_add (gv 4) (gv 5)) ga_nil))))))) (fun _ _ _ _ _ => (gv 5)))))) (gss_one (gs_appD 3 (gv 4))) gss_nil)))
  (gss_one (gs_rO 3))))))
abbrev s_as_purse : Stmt := topS 27
theorem sc_as_purse : FnScope ["coins"] ["coins"] (defScope s_as_purse) := ⟨rfl, rfl, rfl, by decide +kernel, rfl, by decide +kernel, by decide +kernel⟩
theorem ok_as_purse {t_MOST_COINS : Tok} {t_MOST_COIN : Tok} {C_TooBig : Addr} (m_len : mg "len" = none) (m_tuple : mg "tuple" = none) (c_MOST_COINS : mg "MOST_COINS" = some (.int 40 t_MOST_COINS)) (c_MOST_COIN : mg "MOST_COIN" = some (.int 400 t_MOST_COIN)) (X_TooBig : ExC K mg "TooBig" C_TooBig) {fa : Addr} {fd : FuncData} (F : Fun K "as_purse" "as_purse" s_as_purse fa fd) : FnOk P w K mg base (L2.CX P w) 1 fa fd ["coins"] (spF K mg f_as_purse) :=
  fn_ok (k := 0) F sc_as_purse fun cdv A outer s H E hr => by
    have nd := sc_as_purse.nd
    exact (gss_cons (gs_if (gt_w (gw_or (gt_gt (ge_len (by rfl) m_len (gv 0)) (ge_gint (by rfl) c_MOST_COINS)) (gw_or1 (gt_gt (ge_ix (fun _ _ => rfl) (gv 0) (ge_neg ge_int)) (ge_gint (by rfl) c_MOST_COIN))))) (gss_one (gs_rz (c := "TooBig") rfl X_TooBig)) gss_nil)
  (gss_one (gs_ret (ge_tuple (by rfl) m_tuple (gv 0)))))
abbrev s_purse_of : Stmt := topS 28
theorem ok_lamT  (D_is_made : DefOk P w K mg base "is_made" 1 ["least", "number"] f_is_made) (lm_0 : Tb.lm 0 = (mkLm "without.<locals>.<lambda>" (lamIn (defBody (topS 31))) ["coin", "least"])) : LamOk P w K mg base 2 lamT := ⟨fun A outer s H t ds f us vs Q E hr e0 rf rv h => match t, rf, h with
    | 0, rf, h => lam_okL (k := 1) (ps := ["number"]) lm_0 (by decide +kernel) (fun _ _ _ _ us hl => match us, hl with | [_], _ => rfl) (fun cl c' f A outer s H hr => (ge_and (ge_ne hr (gv 0) (gv 1)) (ge_one (ge_cd D_is_made hr (ga_cons (gv 2) (ga_cons (gv 0) ga_nil)))))) A outer s H ds f us vs Q E hr e0 rf rv h
    | n + 1, rf, h => by obtain ⟨_, _, _, h⟩ := h; exact h.elim⟩
theorem sc_purse_of : FnScope ["has", "some", "number", "least", "rest", "found", "coin"] ["has"] (defScope s_purse_of) := ⟨rfl, rfl, rfl, by decide +kernel, rfl, by decide +kernel, by decide +kernel⟩
theorem ok_purse_of {t_MOST_COIN : Tok} {C_TooBig : Addr} (D_as_purse : DefOk P w K mg base "as_purse" 1 ["coins"] f_as_purse) (L_lam : LamOk P w K mg base 2 lamT) (m_range : mg "range" = none) (m_sorted : mg "sorted" = none) (c_MOST_COIN : mg "MOST_COIN" = some (.int 400 t_MOST_COIN)) (X_TooBig : ExC K mg "TooBig" C_TooBig) {fa : Addr} {fd : FuncData} (F : Fun K "purse_of" "purse_of" s_purse_of fa fd) : FnOk P w K mg base (L2.CX P w) 3 fa fd ["has"] (spF K mg f_purse_of) :=
  fn_ok (k := 2) F sc_purse_of fun cdv A outer s H E hr => by
    have nd := sc_purse_of.nd
    exact (gss_cons (gs_setLcI 1 (p := false) (own := [("number", 2)]) rfl nd rfl rfl (sw_true rfl rfl rfl (by decide +kernel)) (gi_r2 (by rfl) m_range ge_int (ge_add (ge_gint (by rfl) c_MOST_COIN) ge_int)) (blkOk_by (own := [("number", 2)]) (N := ["has", "some", "number", "least", "rest", "found", "coin"]) (sc := defScope s_purse_of) (by decide +kernel)) (fun _ _ _ _ _ => (gn_nm 2 nd)) (fun _ _ _ _ _ => (gts_one (gt_tru (ge_hs 0 L_lam hr (ga_cons (gv 2) ga_nil))))) (fun _ _ _ _ _ => (gv 2)))
  (gss_cons (gs_if (gt_not (gt_tru (gv 1))) (gss_one (gs_rz (c := "TooBig") rfl X_TooBig)) gss_nil)
  (gss_cons (gs_stN 3 nd (gn_lst (gp_cons (ge_ix (fun _ _ => rfl) (gv 1) ge_int) gp_nil)))
  (gss_cons (gs_for (vs := [4]) (passes_of rfl) rfl (gi_r2 (by rfl) m_range ge_int (ge_ix (fun _ _ => rfl) (gv 1) ge_int)) (gn_nm 4 nd)
  (gss_cons (gs_st 2 nd (gv 4))
  (gss_cons (gs_while fuel (passes_of rfl) (gt_not (gt_tru (ge_hs 0 L_lam hr (ga_cons (gv 2) ga_nil))))
  (gss_one (gs_agD 2 nd (ge_ix (fun _ _ => rfl) (gv 1) ge_int))))
  (gss_one (gs_appD 3 (gv 2))))))
  (gss_cons (gs_stN 5 nd (gn_lst gp_nil))
  (gss_cons (gs_for (vs := [2]) (passes_of rfl) rfl (gi_new (gn_sorted (by rfl) m_sorted (go 3))) (gn_nm 2 nd)
  (gss_one (gs_if (gt_not (gt_tru (GN.ge (gn_comp (p := false) (own := [("coin", 6)]) rfl nd (gi_seq (go 5)) (blkOk_by (own := [("coin", 6)]) (N := ["has", "some", "number", "least", "rest", "found", "coin"]) (sc := defScope s_purse_of) (by decide +kernel)) (fun _ _ _ _ _ => (gn_nm 6 nd)) (fun _ _ _ _ _ => (gts_one (gt_tru (ge_hs 0 L_lam hr (ga_cons (ge_sub (gv 2) (gv 6)) ga_nil))))) (fun _ _ _ _ _ => (gv 6)))))) (gss_one (gs_appD 5 (gv 2))) gss_nil)))
  (gss_one (gs_ret (ge_cd D_as_purse hr (ga_cons (go 5) ga_nil))))))))))
abbrev s_without : Stmt := topS 31
theorem sc_without : FnScope ["purse", "coin", "least"] ["purse", "coin"] (defScope s_without) := ⟨rfl, rfl, rfl, by decide +kernel, rfl, by decide +kernel, by decide +kernel⟩
theorem ok_without {cM PM : Addr} {fa : Addr} {fd : FuncData} (D_least_sums : DefOk P w K mg base "least_sums" 3 ["purse"] f_least_sums) (D_purse_of : DefOk P w K mg base "purse_of" 3 ["has"] f_purse_of) (TB : LamX.TabB base mg cM PM) (hcd : fd.code = .ref cM) (hmT : (PM, ("without.<locals>.<lambda>" : Str)) ∈ Tb.tb) (hu : ∀ p ∈ Tb.tb, p.1 = PM → p.2 = "without.<locals>.<lambda>") (lm_0 : Tb.lm 0 = (mkLm "without.<locals>.<lambda>" (lamIn (defBody (topS 31))) ["coin", "least"])) (F : Fun K "without" "without" s_without fa fd) : FnOk P w K mg base (L2.CX P w) 4 fa fd ["purse", "coin"] (spF K mg f_without) :=
  fn_okC (k := 3) F sc_without fun cdv hc A outer s H E hr => by
    have nd := sc_without.nd
    obtain rfl : cdv = .ref cM := hc.symm.trans hcd
    exact (gss_cons (gs_st 2 nd (GN.ge (gn_cd D_least_sums hr (ga_cons (gv 0) ga_nil))))
  (gss_one (gs_ret (ge_lc 0 [1, 2] (N := ["purse", "coin", "least"]) (sc := defScope s_without) D_purse_of hr TB rfl hmT hu lm_0 (by decide +kernel)))))
abbrev s_children_of : Stmt := topS 32
theorem sc_children_of : FnScope ["purse", "most", "some", "coin"] ["purse"] (defScope s_children_of) := ⟨rfl, rfl, rfl, by decide +kernel, rfl, by decide +kernel, by decide +kernel⟩
theorem ok_children_of  (D_greatest_gap : DefOk P w K mg base "greatest_gap" 5 ["purse"] f_greatest_gap) (D_least_purse : DefOk P w K mg base "least_purse" 3 ["purse"] f_least_purse) (D_without : DefOk P w K mg base "without" 4 ["purse", "coin"] f_without) (m_sorted : mg "sorted" = none) {fa : Addr} {fd : FuncData} (F : Fun K "children_of" "children_of" s_children_of fa fd) : FnOk P w K mg base (L2.CX P w) 6 fa fd ["purse"] (spF K mg f_children_of) :=
  fn_ok (k := 5) F sc_children_of fun cdv A outer s H E hr => by
    have nd := sc_children_of.nd
    exact (gss_cons (gs_st 1 nd (ge_cd D_greatest_gap hr (ga_cons (gv 0) ga_nil)))
  (gss_cons (gs_setLcI 2 (p := false) (own := [("coin", 3)]) rfl nd rfl rfl (sw_true rfl rfl rfl (by decide +kernel)) (gi_seq (ge_cd D_least_purse hr (ga_cons (gv 0) ga_nil))) (blkOk_by (own := [("coin", 3)]) (N := ["purse", "most", "some", "coin"]) (sc := defScope s_children_of) (by decide +kernel)) (fun _ _ _ _ _ => (gn_nm 3 nd)) (fun _ _ _ _ _ => (gts_one (gt_w (gw_or (gt_isN (gv 1)) (gw_or1 (gt_gt (gv 3) (gv 1))))))) (fun _ _ _ _ _ => (gv 3)))
  (gss_one (gs_retN (gn_sortedT (by rfl) m_sorted (GN.ge (gn_comp (p := false) (own := [("coin", 3)]) rfl nd (gi_seq (gv 2)) (blkOk_by (own := [("coin", 3)]) (N := ["purse", "most", "some", "coin"]) (sc := defScope s_children_of) (by decide +kernel)) (fun _ _ _ _ _ => (gn_nm 3 nd)) (fun _ _ _ _ _ => gts_nil) (fun _ _ _ _ _ => (ge_cd D_without hr (ga_cons (gv 0) (ga_cons (gv 3) ga_nil)))))))))))
abbrev s_all_with : Stmt := topS 33
theorem sc_all_with : FnScope ["many", "found", "turn", "more", "purse"] ["many"] (defScope s_all_with) := ⟨rfl, rfl, rfl, by decide +kernel, rfl, by decide +kernel, by decide +kernel⟩
theorem ok_all_with {t_MOST_GAPS : Tok} {C_BadSum : Addr} (D_is_within : DefOk P w K mg base "is_within" 1 ["thing", "low", "high"] f_is_within) (D_children_of : DefOk P w K mg base "children_of" 6 ["purse"] f_children_of) (m_range : mg "range" = none) (m_sorted : mg "sorted" = none) (c_MOST_GAPS : mg "MOST_GAPS" = some (.int 7 t_MOST_GAPS)) (X_BadSum : ExC K mg "BadSum" C_BadSum) {fa : Addr} {fd : FuncData} (F : Fun K "all_with" "all_with" s_all_with fa fd) : FnOk P w K mg base (L2.CX P w) 7 fa fd ["many"] (spF K mg f_all_with) :=
  fn_ok2 (k := 6) F sc_all_with fun cdv A outer s H E hr => by
    have nd := sc_all_with.nd
    exact (gss_cons (gs_if (gt_not (gt_tru (ge_cd D_is_within hr (ga_cons (gv 0) (ga_cons ge_int (ga_cons (ge_gint (by rfl) c_MOST_GAPS) ga_nil)))))) (gss_one (gs_rz (c := "BadSum") rfl X_BadSum)) gss_nil)
  (gss_cons (gs_st 1 nd (GN.ge (gn_lst (gp_cons (ge_tup (gp_cons ge_int gp_nil)) gp_nil))))
  (gss_cons (gs_for (vs := [2]) (passes_of rfl) rfl (gi_r1 (by rfl) m_range (gv 0)) (gn_nm 2 nd)
  (gss_cons (gs_stN 3 nd (gn_lst gp_nil))
  (gss_cons (gs_for (vs := [4]) (passes_of rfl) rfl (gi_seq (gv 1)) (gn_nm 4 nd)
  (gss_one (gs_extD 3 (gn_cd D_children_of hr (ga_cons (gv 4) ga_nil)))))
  (gss_one (gs_st 1 nd (GN.ge (gn_sortedT (by rfl) m_sorted (go 3))))))))
  (gss_one (gs_ret (gv 1))))))
abbrev s_look_paid : Stmt := topS 37
theorem sc_look_paid : FnScope ["purse", "number"] ["purse", "number"] (defScope s_look_paid) := ⟨rfl, rfl, rfl, by decide +kernel, rfl, by decide +kernel, by decide +kernel⟩
theorem ok_look_paid {t_MOST_PAID : Tok} {C_BadSum : Addr} (D_checked : DefOk P w K mg base "checked" 2 ["purse"] f_checked) (D_is_within : DefOk P w K mg base "is_within" 1 ["thing", "low", "high"] f_is_within) (c_MOST_PAID : mg "MOST_PAID" = some (.int 400 t_MOST_PAID)) (X_BadSum : ExC K mg "BadSum" C_BadSum) {fa : Addr} {fd : FuncData} (F : Fun K "look_paid" "look_paid" s_look_paid fa fd) : FnOk P w K mg base (L2.CX P w) 3 fa fd ["purse", "number"] (spF K mg f_look_paid) :=
  fn_ok (k := 2) F sc_look_paid fun cdv A outer s H E hr => by
    have nd := sc_look_paid.nd
    exact (gss_cons (gs_drop (ge_cd D_checked hr (ga_cons (gv 0) ga_nil)))
  (gss_one (gs_if (gt_not (gt_tru (ge_cd D_is_within hr (ga_cons (gv 1) (ga_cons ge_int (ga_cons (ge_gint (by rfl) c_MOST_PAID) ga_nil)))))) (gss_one (gs_rz (c := "BadSum") rfl X_BadSum)) gss_nil)))
abbrev s_ways_up_to : Stmt := topS 38
theorem sc_ways_up_to : FnScope ["coins", "last", "found", "number", "coin"] ["coins", "last"] (defScope s_ways_up_to) := ⟨rfl, rfl, rfl, by decide +kernel, rfl, by decide +kernel, by decide +kernel⟩
theorem ok_ways_up_to  (m_range : mg "range" = none) {fa : Addr} {fd : FuncData} (F : Fun K "ways_up_to" "ways_up_to" s_ways_up_to fa fd) : FnOk P w K mg base (L2.CX P w) 1 fa fd ["coins", "last"] (spF K mg f_ways_up_to) :=
  fn_ok (k := 0) F sc_ways_up_to fun cdv A outer s H E hr => by
    have nd := sc_ways_up_to.nd
    exact (gss_cons (gs_stN 2 nd (gn_cat (GN.ge (gn_lst (gp_cons ge_int gp_nil))) (GN.ge (gn_comp (p := false) (own := [("number", 3)]) rfl nd (gi_r1 (by rfl) m_range (gv 1)) (blkOk_by (own := [("number", 3)]) (N := ["coins", "last", "found", "number", "coin"]) (sc := defScope s_ways_up_to) (by decide +kernel)) (fun _ _ _ _ _ => (gn_nm 3 nd)) (fun _ _ _ _ _ => gts_nil) (fun _ _ _ _ _ => ge_int)))))
  (gss_cons (gs_for (vs := [4]) (passes_of rfl) rfl (gi_seq (gv 0)) (gn_nm 4 nd)
  (gss_one (gs_for (vs := [3]) (passes_of rfl) rfl (gi_r2 (by rfl) m_range (gv 4) (ge_add (gv 1) ge_int)) (gn_nm 3 nd)
  (gss_one (gs_putD 2 (ge_add (ge_ix (fun _ _ => rfl) (go 2) (gv 3)) (ge_ix (fun _ _ => rfl) (go 2) (ge_sub (gv 3) (gv 4)))) (gv 3))))))
  (gss_one (gs_rO 2))))
abbrev s_count_ways : Stmt := topS 39
theorem sc_count_ways : FnScope ["purse", "number"] ["purse", "number"] (defScope s_count_ways) := ⟨rfl, rfl, rfl, by decide +kernel, rfl, by decide +kernel, by decide +kernel⟩
theorem ok_count_ways  (D_look_paid : DefOk P w K mg base "look_paid" 3 ["purse", "number"] f_look_paid) (D_ways_up_to : DefOk P w K mg base "ways_up_to" 1 ["coins", "last"] f_ways_up_to) {fa : Addr} {fd : FuncData} (F : Fun K "count_ways" "count_ways" s_count_ways fa fd) : FnOk P w K mg base (L2.CX P w) 4 fa fd ["purse", "number"] (spF K mg f_count_ways) :=
  fn_ok (k := 3) F sc_count_ways fun cdv A outer s H E hr => by
    have nd := sc_count_ways.nd
    exact (gss_cons (gs_drop (ge_cd D_look_paid hr (ga_cons (gv 0) (ga_cons (gv 1) ga_nil))))
  (gss_one (gs_ret (ge_ix (fun _ _ => rfl) (GN.ge (gn_cd D_ways_up_to hr (ga_cons (gv 0) (ga_cons (gv 1) ga_nil)))) (gv 1)))))
abbrev s_listed : Stmt := topS 40
theorem sc_listed : FnScope ["coins", "number", "found", "rows", "often", "left", "rest"] ["coins", "number"] (defScope s_listed) := ⟨rfl, rfl, rfl, by decide +kernel, rfl, by decide +kernel, by decide +kernel⟩
theorem okn_listed  (D_ways_up_to : DefOk P w K mg base "ways_up_to" 1 ["coins", "last"] f_ways_up_to) (m_range : mg "range" = none) (n : Nat) (D_listed : DefOk P w K mg base "listed" (2 + n) ["coins", "number"] (f_listed_n n)) {fa : Addr} {fd : FuncData} (F : Fun K "listed" "listed" s_listed fa fd) : FnOk P w K mg base (L2.CX P w) (2 + n + 1) fa fd ["coins", "number"] (spF K mg (f_listed_n (n + 1))) :=
  fn_ok (k := 2 + n) F sc_listed fun cdv A outer s H E hr => by
    have nd := sc_listed.nd
    exact (gss_cons (gs_if (gt_not (gt_tru (gv 0))) (gss_one (gs_retN (gn_lst (gp_cons (ge_tup gp_nil) gp_nil)))) gss_nil)
  (gss_cons (gs_stN 2 nd (gn_lst gp_nil))
  (gss_cons (gs_st 3 nd (GN.ge (gn_cd D_ways_up_to hr (ga_cons (ge_slT (gv 0) (go_at ge_int) go_no) (ga_cons (gv 1) ga_nil)) (by omega))))
  (gss_cons (gs_for (vs := [4]) (passes_of rfl) rfl (gi_r1 (by rfl) m_range (ge_add (ge_div (gv 1) (ge_ix (fun _ _ => rfl) (gv 0) ge_int)) ge_int)) (gn_nm 4 nd)
  (gss_cons (gs_st 5 nd (ge_sub (gv 1) (ge_mul (gv 4) (ge_ix (fun _ _ => rfl) (gv 0) ge_int))))
  (gss_one (gs_if (gt_gt (ge_ix (fun _ _ => rfl) (gv 3) (gv 5)) ge_int) (gss_one (gs_extD 2 (gn_comp (p := false) (own := [("rest", 6)]) rfl nd (gi_new (gn_cd D_listed hr (ga_cons (ge_slT (gv 0) (go_at ge_int) go_no) (ga_cons (gv 5) ga_nil)) (by omega))) (blkOk_by (own := [("rest", 6)]) (N := ["coins", "number", "found", "rows", "often", "left", "rest"]) (sc := defScope s_listed) (by decide +kernel)) (fun _ _ _ _ _ => (gn_nm 6 nd)) (fun _ _ _ _ _ => gts_nil) (fun _ _ _ _ _ => (ge_catT (ge_tup (gp_cons (gv 4) gp_nil)) (gv 6)))))) gss_nil))))
  (gss_one (gs_rO 2))))))
theorem dr_listed  (D_ways_up_to : DefOk P w K mg base "ways_up_to" 1 ["coins", "last"] f_ways_up_to) (m_range : mg "range" = none) {fa : Addr} {fd : FuncData} (F : Fun K "listed" "listed" s_listed fa fd) (gm : mg "listed" = some (.ref fa)) (hb : Binds K fd ["coins", "number"] []) : ∀ n, DefOk P w K mg base "listed" (2 + n) ["coins", "number"] (f_listed_n n) := fun n => by
  induction n with
  | zero => exact .of F gm hb (fn_bad (k := 1) F sc_listed)
  | succ n ih => exact .of F gm hb (okn_listed D_ways_up_to m_range n ih F)
abbrev s_all_ways : Stmt := topS 41
theorem sc_all_ways : FnScope ["purse", "number"] ["purse", "number"] (defScope s_all_ways) := ⟨rfl, rfl, rfl, by decide +kernel, rfl, by decide +kernel, by decide +kernel⟩
theorem ok_all_ways {t_MOST_WAYS : Tok} {C_TooMany : Addr} (D_count_ways : DefOk P w K mg base "count_ways" 4 ["purse", "number"] f_count_ways) (D_listed : DefOk P w K mg base "listed" 9 ["coins", "number"] f_listed) (c_MOST_WAYS : mg "MOST_WAYS" = some (.int 200 t_MOST_WAYS)) (X_TooMany : ExC K mg "TooMany" C_TooMany) {fa : Addr} {fd : FuncData} (F : Fun K "all_ways" "all_ways" s_all_ways fa fd) : FnOk P w K mg base (L2.CX P w) 10 fa fd ["purse", "number"] (spF K mg f_all_ways) :=
  fn_ok (k := 9) F sc_all_ways fun cdv A outer s H E hr => by
    have nd := sc_all_ways.nd
    exact (gss_cons (gs_if (gt_gt (ge_cd D_count_ways hr (ga_cons (gv 0) (ga_cons (gv 1) ga_nil))) (ge_gint (by rfl) c_MOST_WAYS)) (gss_one (gs_rz (c := "TooMany") rfl X_TooMany)) gss_nil)
  (gss_cons (gs_if (gt_eq hr (ge_cd D_count_ways hr (ga_cons (gv 0) (ga_cons (gv 1) ga_nil))) ge_int) (gss_one (gs_retN (gn_lst gp_nil))) gss_nil)
  (gss_one (gs_retN (gn_cd D_listed hr (ga_cons (gv 0) (ga_cons (gv 1) ga_nil)))))))
abbrev s_l_cell : Stmt := topS 43
theorem sc_l_cell : FnScope ["_law_script", "_law_k"] ["_law_script", "_law_k"] (defScope s_l_cell) := ⟨rfl, rfl, rfl, by decide +kernel, rfl, by decide +kernel, by decide +kernel⟩
theorem ok_l_cell  (m_len : mg "len" = none) {fa : Addr} {fd : FuncData} (F : Fun K "_law_cell" "_law_cell" s_l_cell fa fd) : FnOk P w K mg base (L2.CX P w) 1 fa fd ["_law_script", "_law_k"] (spF K mg f_l_cell) :=
  fn_ok (k := 0) F sc_l_cell fun cdv A outer s H E hr => by
    have nd := sc_l_cell.nd
    exact (gss_cons (gs_if (gt_lt (gv 1) (ge_len (by rfl) m_len (gv 0))) (gss_one (gs_ret (ge_ix (fun _ _ => rfl) (gv 0) (gv 1)))) gss_nil)
  (gss_one (gs_ret ge_int)))
abbrev s_l_mix : Stmt := topS 44
theorem sc_l_mix : FnScope ["_law_cell_here", "_law_prime", "_law_many"] ["_law_cell_here", "_law_prime", "_law_many"] (defScope s_l_mix) := ⟨rfl, rfl, rfl, by decide +kernel, rfl, by decide +kernel, by decide +kernel⟩
theorem ok_l_mix   {fa : Addr} {fd : FuncData} (F : Fun K "_law_mix" "_law_mix" s_l_mix fa fd) : FnOk P w K mg base (L2.CX P w) 1 fa fd ["_law_cell_here", "_law_prime", "_law_many"] (spF K mg f_l_mix) :=
  fn_ok (k := 0) F sc_l_mix fun cdv A outer s H E hr => by
    have nd := sc_l_mix.nd
    exact (gss_one (gs_ret (ge_mod (ge_mod (ge_mul (gv 0) ge_int) (gv 1)) (gv 2))))
abbrev s_l_twin : Stmt := topS 45
theorem sc_l_twin : FnScope ["_law_thing", "_law_one"] ["_law_thing"] (defScope s_l_twin) := ⟨rfl, rfl, rfl, by decide +kernel, rfl, by decide +kernel, by decide +kernel⟩
theorem okn_l_twin  (m_list : mg "list" = none) (m_isinstance : mg "isinstance" = none) (n : Nat) (D_l_twin : DefOk P w K mg base "_law_twin" (1 + n) ["_law_thing"] (f_l_twin_n n)) {fa : Addr} {fd : FuncData} (F : Fun K "_law_twin" "_law_twin" s_l_twin fa fd) : FnOk P w K mg base (L2.CX P w) (1 + n + 1) fa fd ["_law_thing"] (spF K mg (f_l_twin_n (n + 1))) :=
  fn_ok (k := 1 + n) F sc_l_twin fun cdv A outer s H E hr => by
    have nd := sc_l_twin.nd
    exact (gss_cons (gs_if (gt_not (gt_tru (ge_isi (x := "list") isT_list (by rfl) m_isinstance (by rfl) m_list (by decide +kernel) (gv 0)))) (gss_one (gs_ret (gv 0))) gss_nil)
  (gss_one (gs_retN (gn_comp (p := false) (own := [("_law_one", 1)]) rfl nd (gi_seq (gv 0)) (blkOk_by (own := [("_law_one", 1)]) (N := ["_law_thing", "_law_one"]) (sc := defScope s_l_twin) (by decide +kernel)) (fun _ _ _ _ _ => (gn_nm 1 nd)) (fun _ _ _ _ _ => gts_nil) (fun _ _ _ _ _ => (ge_cd D_l_twin hr (ga_cons (gv 1) ga_nil) (by omega)))))))
theorem dr_l_twin  (m_list : mg "list" = none) (m_isinstance : mg "isinstance" = none) {fa : Addr} {fd : FuncData} (F : Fun K "_law_twin" "_law_twin" s_l_twin fa fd) (gm : mg "_law_twin" = some (.ref fa)) (hb : Binds K fd ["_law_thing"] []) : ∀ n, DefOk P w K mg base "_law_twin" (1 + n) ["_law_thing"] (f_l_twin_n n) := fun n => by
  induction n with
  | zero => exact .of F gm hb (fn_bad (k := 0) F sc_l_twin)
  | succ n ih => exact .of F gm hb (okn_l_twin m_list m_isinstance n ih F)
theorem ok_l_twin (twin_row : ∀ r : D, rowD r = true → ∃ ds, r = .lst ds ∧ f_l_twin_n 2 [r] = .rn ds) (D_l_twin2 : DefOk P w K mg base "_law_twin" 3 ["_law_thing"] (f_l_twin_n 2)) (m_list : mg "list" = none) (m_isinstance : mg "isinstance" = none) {fa : Addr} {fd : FuncData} (F : Fun K "_law_twin" "_law_twin" s_l_twin fa fd) : FnOk P w K mg base (L2.CX P w) 4 fa fd ["_law_thing"] (spF K mg (twinG (f_l_twin_n 2) rowD)) :=
  fn_twin (k := 3) F sc_l_twin rfl (by decide) twin_row fun cdv A outer s H E hr => by
    have nd := sc_l_twin.nd
    exact pss_twin rfl nd (gt_not (gt_tru (ge_isi (x := "list") isT_list (by rfl) m_isinstance (by rfl) m_list (by decide +kernel) (gv 0)))) (pe_var (i := 0) rfl (by first | exact .inl rfl | exact .inr (.inl rfl) | exact .inr (.inr rfl))) D_l_twin2 hr (by decide) (blkOk_by (own := [("_law_one", 1)]) (N := ["_law_thing", "_law_one"]) (sc := defScope s_l_twin) (by decide +kernel)) rfl (fun _ _ _ _ _ => pg_name nd rfl (.inl rfl)) (fun _ _ _ _ _ => pe_var (i := 1) rfl (by first | exact .inl rfl | exact .inr (.inl rfl) | exact .inr (.inr rfl))) (fun _ _ _ _ _ => by rfl) (by decide)
abbrev s_l_emptied : Stmt := topS 46
theorem sc_l_emptied : FnScope ["_law_thing", "_law_one"] ["_law_thing"] (defScope s_l_emptied) := ⟨rfl, rfl, rfl, by decide +kernel, rfl, by decide +kernel, by decide +kernel⟩
theorem ok_l_emptied0 (m_list : mg "list" = none) (m_isinstance : mg "isinstance" = none) {fa : Addr} {fd : FuncData} (F : Fun K "_law_emptied" "_law_emptied" s_l_emptied fa fd) : FnOk P w K mg base (L2.CX P w) 1 fa fd ["_law_thing"] (spF K mg f_l_emptied0) :=
  fn_ok (k := 0) F sc_l_emptied fun cdv A outer s H E hr => by
    have nd := sc_l_emptied.nd
    exact gss_one (gs_if (gt_tru (ge_isi (x := "list") isT_list (by rfl) m_isinstance (by rfl) m_list (by decide +kernel) (gv 0))) gss_bad gss_nil)
theorem ok_l_emptied (D_l_emptied0 : DefOk P w K mg base "_law_emptied" 1 ["_law_thing"] f_l_emptied0) (m_list : mg "list" = none) (m_isinstance : mg "isinstance" = none) {fa : Addr} {fd : FuncData} (F : Fun K "_law_emptied" "_law_emptied" s_l_emptied fa fd) : FnOk P w K mg base (L2.CX P w) 2 fa fd ["_law_thing"] (spE K f_l_emptied0) :=
  fn_emp (k := 1) F sc_l_emptied rfl (by decide) fun cdv A outer s H E hr => by
    have nd := sc_l_emptied.nd
    exact pss_emp rfl (passes_of rfl) (gt_tru (ge_isi (x := "list") isT_list (by rfl) m_isinstance (by rfl) m_list (by decide +kernel) (gv 0))) (fun _ => pe_var (i := 0) rfl (by first | exact .inl rfl | exact .inr (.inl rfl) | exact .inr (.inr rfl))) (pe_var (i := 1) rfl (by first | exact .inl rfl | exact .inr (.inl rfl) | exact .inr (.inr rfl))) (pg_name nd rfl (.inl rfl)) D_l_emptied0 hr (by decide) (by rfl) (by decide) (by rfl) m_list (by rfl) (by rfl) (by rfl) (by rfl) (by rfl) (by rfl) (by rfl) (by rfl) (by intro _; rfl)
abbrev s_l_coins : Stmt := topS 47
theorem sc_l_coins : FnScope ["_law_script", "_law_at", "_law_most", "_law_many", "_law_found", "_law_k"] ["_law_script", "_law_at", "_law_most"] (defScope s_l_coins) := ⟨rfl, rfl, rfl, by decide +kernel, rfl, by decide +kernel, by decide +kernel⟩
theorem ok_l_coins  (D_l_mix : DefOk P w K mg base "_law_mix" 1 ["_law_cell_here", "_law_prime", "_law_many"] f_l_mix) (D_l_cell : DefOk P w K mg base "_law_cell" 1 ["_law_script", "_law_k"] f_l_cell) (m_range : mg "range" = none) (m_sorted : mg "sorted" = none) (m_set : mg "set" = none) {fa : Addr} {fd : FuncData} (F : Fun K "_law_coins" "_law_coins" s_l_coins fa fd) : FnOk P w K mg base (L2.CX P w) 2 fa fd ["_law_script", "_law_at", "_law_most"] (spF K mg f_l_coins) :=
  fn_ok (k := 1) F sc_l_coins fun cdv A outer s H E hr => by
    have nd := sc_l_coins.nd
    exact (gss_cons (gs_st 3 nd (ge_add ge_int (ge_cd D_l_mix hr (ga_cons (ge_cd D_l_cell hr (ga_cons (gv 0) (ga_cons (gv 1) ga_nil))) (ga_cons ge_int (ga_cons ge_int ga_nil))))))
  (gss_cons (gs_setLcI 4 (p := false) (own := [("_law_k", 5)]) rfl nd rfl rfl (sw_true rfl rfl rfl (by decide +kernel)) (gi_r1 (by rfl) m_range (gv 3)) (blkOk_by (own := [("_law_k", 5)]) (N := ["_law_script", "_law_at", "_law_most", "_law_many", "_law_found", "_law_k"]) (sc := defScope s_l_coins) (by decide +kernel)) (fun _ _ _ _ _ => (gn_nm 5 nd)) (fun _ _ _ _ _ => gts_nil) (fun _ _ _ _ _ => (ge_add ge_int (ge_cd D_l_mix hr (ga_cons (ge_add (ge_cd D_l_cell hr (ga_cons (gv 0) (ga_cons (ge_add (ge_add (gv 1) ge_int) (gv 5)) ga_nil))) (ge_mul (ge_mul ge_int (gv 5)) (gv 5))) (ga_cons ge_int (ga_cons (gv 2) ga_nil)))))))
  (gss_one (gs_retN (gn_setSort rfl (by rfl) m_sorted (by rfl) m_set (gv 4))))))
abbrev s_l_divisor : Stmt := topS 48
theorem sc_l_divisor : FnScope ["_law_coins_here", "_law_k", "_law_coin"] ["_law_coins_here"] (defScope s_l_divisor) := ⟨rfl, rfl, rfl, by decide +kernel, rfl, by decide +kernel, by decide +kernel⟩
theorem ok_l_divisor  (m_range : mg "range" = none) (m_max : mg "max" = none) {fa : Addr} {fd : FuncData} (F : Fun K "_law_divisor" "_law_divisor" s_l_divisor fa fd) : FnOk P w K mg base (L2.CX P w) 1 fa fd ["_law_coins_here"] (spF K mg f_l_divisor) :=
  fn_ok (k := 0) F sc_l_divisor fun cdv A outer s H E hr => by
    have nd := sc_l_divisor.nd
    exact (gss_one (gs_ret (ge_max rfl (by rfl) m_max (GN.ge (gn_comp (p := false) (own := [("_law_k", 1)]) rfl nd (gi_r2 (by rfl) m_range ge_int (ge_add (ge_ix (fun _ _ => rfl) (gv 0) ge_int) ge_int)) (blkOk_by (own := [("_law_k", 1)]) (N := ["_law_coins_here", "_law_k", "_law_coin"]) (sc := defScope s_l_divisor) (by decide +kernel)) (fun _ _ _ _ _ => (gn_nm 1 nd)) (fun _ _ _ _ _ => (gts_one (gt_eq hr (GN.ge (gn_comp (p := false) (own := [("_law_coin", 2)]) rfl nd (gi_seq (gv 0)) (blkOk_by (own := [("_law_coin", 2)]) (N := ["_law_coins_here", "_law_k", "_law_coin"]) (sc := relS _ (defScope s_l_divisor)) (by decide +kernel)) (fun _ _ _ _ _ => (gn_nm 2 nd)) (fun _ _ _ _ _ => (gts_one (gt_gt (ge_mod (gv 2) (gv 1)) ge_int))) (fun _ _ _ _ _ => ge_int))) (GN.ge (gn_lst gp_nil))))) (fun _ _ _ _ _ => (gv 1)))))))
abbrev s_l_plain : Stmt := topS 49
theorem sc_l_plain : FnScope ["_law_script", "_law_at", "_law_most", "_law_coins_here"] ["_law_script", "_law_at"] (defScope s_l_plain) := ⟨rfl, rfl, rfl, by decide +kernel, rfl, by decide +kernel, by decide +kernel⟩
theorem ok_l_plain  (D_l_mix : DefOk P w K mg base "_law_mix" 1 ["_law_cell_here", "_law_prime", "_law_many"] f_l_mix) (D_l_cell : DefOk P w K mg base "_law_cell" 1 ["_law_script", "_law_k"] f_l_cell) (D_l_coins : DefOk P w K mg base "_law_coins" 2 ["_law_script", "_law_at", "_law_most"] f_l_coins) (D_l_divisor : DefOk P w K mg base "_law_divisor" 1 ["_law_coins_here"] f_l_divisor) (m_len : mg "len" = none) (m_sorted : mg "sorted" = none) (m_set : mg "set" = none) (m_tuple : mg "tuple" = none) {fa : Addr} {fd : FuncData} (F : Fun K "_law_plain" "_law_plain" s_l_plain fa fd) : FnOk P w K mg base (L2.CX P w) 3 fa fd ["_law_script", "_law_at"] (spF K mg f_l_plain) :=
  fn_ok (k := 2) F sc_l_plain fun cdv A outer s H E hr => by
    have nd := sc_l_plain.nd
    exact (gss_cons (gs_st 2 nd (ge_ix (fun _ _ => rfl) (GN.ge (gn_lst (gp_cons ge_int (gp_cons ge_int (gp_cons ge_int gp_nil))))) (ge_cd D_l_mix hr (ga_cons (ge_cd D_l_cell hr (ga_cons (gv 0) (ga_cons (gv 1) ga_nil))) (ga_cons ge_int (ga_cons ge_int ga_nil))))))
  (gss_cons (gs_if (gt_gt (ge_len (by rfl) m_len (gv 0)) ge_int) (gss_one (gs_st 2 nd ge_int)) gss_nil)
  (gss_cons (gs_st 3 nd (GN.ge (gn_cd D_l_coins hr (ga_cons (gv 0) (ga_cons (gv 1) (ga_cons (gv 2) ga_nil))))))
  (gss_cons (gs_if (gt_gt (ge_cd D_l_divisor hr (ga_cons (gv 3) ga_nil)) ge_int) (gss_one (gs_st 3 nd (GN.ge (gn_setSort rfl (by rfl) m_sorted (by rfl) m_set (GN.ge (gn_cat (gv 3) (GN.ge (gn_lst (gp_cons (ge_add (ge_ix (fun _ _ => rfl) (gv 3) ge_int) ge_int) gp_nil))))))))) gss_nil)
  (gss_one (gs_ret (ge_tuple (by rfl) m_tuple (gv 3))))))))
abbrev s_l_lists : Stmt := topS 50
theorem sc_l_lists : FnScope ["_law_purse", "_law_many", "_law_number", "_law_found"] ["_law_purse", "_law_many", "_law_number"] (defScope s_l_lists) := ⟨rfl, rfl, rfl, by decide +kernel, rfl, by decide +kernel, by decide +kernel⟩
theorem ok_l_lists  (D_all_with : DefOk P w K mg base "all_with" 7 ["many"] f_all_with) (D_ends_of : DefOk P w K mg base "ends_of" 6 ["purse"] f_ends_of) (D_gaps_of : DefOk P w K mg base "gaps_of" 5 ["purse"] f_gaps_of) (D_least_sums : DefOk P w K mg base "least_sums" 3 ["purse"] f_least_sums) (D_needless : DefOk P w K mg base "needless" 3 ["purse"] f_needless) (D_count_ways : DefOk P w K mg base "count_ways" 4 ["purse", "number"] f_count_ways) (D_all_ways : DefOk P w K mg base "all_ways" 10 ["purse", "number"] f_all_ways) (D_children_of : DefOk P w K mg base "children_of" 6 ["purse"] f_children_of) {fa : Addr} {fd : FuncData} (F : Fun K "_law_lists" "_law_lists" s_l_lists fa fd) : FnOk P w K mg base (L2.CX P w) 11 fa fd ["_law_purse", "_law_many", "_law_number"] (spF K mg f_l_lists) :=
  fn_ok0 (k := 10) F sc_l_lists fun cdv A outer s H E hr => by
    have nd := sc_l_lists.nd
    exact (gss_cons (gs_stN 3 nd (gn_lst (gp_cons (GN.ge (gn_cd D_needless hr (ga_cons (gv 0) ga_nil))) (gp_cons (GN.ge (gn_cd D_least_sums hr (ga_cons (gv 0) ga_nil))) (gp_cons (GN.ge (gn_cd D_gaps_of hr (ga_cons (gv 0) ga_nil))) (gp_cons (GN.ge (gn_cd D_ends_of hr (ga_cons (gv 0) ga_nil))) (gp_cons (ge_cd D_all_with hr (ga_cons (gv 1) ga_nil)) gp_nil)))))))
  (gss_cons (gs_if (gt_le (ge_cd D_count_ways hr (ga_cons (gv 0) (ga_cons (gv 2) ga_nil))) ge_int) (gss_one (gs_appD 3 (GN.ge (gn_cd D_all_ways hr (ga_cons (gv 0) (ga_cons (gv 2) ga_nil)))))) gss_nil)
  (gss_cons (gs_if (gt_lt (ge_ix (fun _ _ => rfl) (gv 0) (ge_neg ge_int)) ge_int) (gss_one (gs_appD 3 (GN.ge (gn_cd D_children_of hr (ga_cons (gv 0) ga_nil))))) gss_nil)
  (gss_one (gs_rO 3)))))
abbrev s_law : Stmt := topS 51
theorem sc_law : FnScope ["_law_script", "_law_purse", "_law_many", "_law_number", "_law_rows", "_law_due", "_law_row"] ["_law_script"] (defScope s_law) := ⟨rfl, rfl, rfl, by decide +kernel, rfl, by decide +kernel, by decide +kernel⟩
theorem ok_law  (D_l_plain : DefOk P w K mg base "_law_plain" 3 ["_law_script", "_law_at"] f_l_plain) (D_l_cell : DefOk P w K mg base "_law_cell" 1 ["_law_script", "_law_k"] f_l_cell) (D_l_lists : DefOk P w K mg base "_law_lists" 11 ["_law_purse", "_law_many", "_law_number"] f_l_lists) (D_gaps_of : DefOk P w K mg base "gaps_of" 5 ["purse"] f_gaps_of) (DT_l_twin : DefOk P w K mg base "_law_twin" 4 ["_law_thing"] (twinG (f_l_twin_n 2) rowD)) (DE_l_emptied : DefS P w K mg base "_law_emptied" 2 ["_law_thing"] (spE K f_l_emptied0)) (emp_flat : ∀ d : D, flatD d = true → f_l_emptied0 [d] = .rt .non) (m_len : mg "len" = none) {fa : Addr} {fd : FuncData} (F : Fun K "law" "law" s_law fa fd) : FnOk P w K mg base (L2.CX P w) 12 fa fd ["_law_script"] (spF K mg f_law) :=
  fn_ok00 (k := 11) F sc_law fun cdv A outer s H E hr => by
    have nd := sc_law.nd
    exact (gss_cons0 (gs_st 1 nd (ge_cd D_l_plain hr (ga_cons (gv 0) (ga_cons ge_int ga_nil))))
  (gss_cons0 (gs_st 2 nd (ge_mod (ge_cd D_l_cell hr (ga_cons (gv 0) (ga_cons ge_int ga_nil))) ge_int))
  (gss_cons0 (gs_st 3 nd (ge_mod (ge_cd D_l_cell hr (ga_cons (gv 0) (ga_cons ge_int ga_nil))) ge_int))
  (gss_cons0 (gs_st 4 nd (GN.ge (gn_cd D_l_lists hr (ga_cons (gv 1) (ga_cons (gv 2) (ga_cons (gv 3) ga_nil))))))
  (gss_mid (i := 4) (j := 5) (k := 6) rfl (passes_of rfl) nd rfl (.inl rfl) (fun _ => (pe_var (i := 4) rfl (.inl rfl))) (pe_var (i := 6) rfl (.inl rfl)) (pg_name nd rfl (.inl rfl)) DT_l_twin DE_l_emptied hr (by decide) (by decide) emp_flat (by rfl) (by rfl) (by decide) (by decide) (by rfl) (by rfl) (by rfl) (by rfl) (by rfl) (by rfl) (.inr rfl) (by intro _; rfl) (gss_one (gs_ret (ge_and (ge_eq hr (GN.ge (gn_cd D_l_lists hr (ga_cons (gv 1) (ga_cons (gv 2) (ga_cons (gv 3) ga_nil))))) (gv 5)) (ge_and (ge_eq hr (ge_len (by rfl) m_len (ge_ix (fun _ _ => rfl) (gv 5) ge_int)) (ge_ix (fun _ _ => rfl) (gv 1) ge_int)) (ge_one (ge_eq hr (gv 2) (ge_len (by rfl) m_len (GN.ge (gn_cd D_gaps_of hr (ga_cons (ge_ix (fun _ _ => rfl) (ge_ix (fun _ _ => rfl) (gv 5) ge_int) ge_int) ga_nil)))))))))))))))
end
end GP

namespace GP
open PySem PySem.Spec PyProof.Rows L2 GM
local instance tb0 : Tb := ⟨[], fun _ => ⟨"", default, .Constant .none 0 ⟨0, 0, 0, 0⟩, default, []⟩⟩

theorem all_mk {l : PySem.W.OpenLaw} {w : World} {K : PySem.W.Frag} {h : Heap} {mg : Str → Option Value} {fa : Addr} (X : K.In h) (G : h.Ns mainGlobals mg) (hfa : mg "law" = some (.ref fa))
  (hf : ∀ ns : List Int, ns.length ≤ 63 → f_law [.scr ns] = .rt (.bl true))
  {f0 : Addr} {od0 an0 : Option Addr} {sl0 : Array (Option Value)} {oc0 kV0 dc0 pm0 cd0 ct0 : Value} {f1 : Addr} {od1 an1 : Option Addr} {sl1 : Array (Option Value)} {oc1 kV1 dc1 pm1 cd1 ct1 : Value} {f2 : Addr} {od2 an2 : Option Addr} {sl2 : Array (Option Value)} {oc2 kV2 dc2 pm2 cd2 ct2 : Value} {f3 : Addr} {od3 an3 : Option Addr} {sl3 : Array (Option Value)} {oc3 kV3 dc3 pm3 cd3 ct3 : Value} {f4 : Addr} {od4 an4 : Option Addr} {sl4 : Array (Option Value)} {oc4 kV4 dc4 pm4 cd4 ct4 : Value} {f5 : Addr} {od5 an5 : Option Addr} {sl5 : Array (Option Value)} {oc5 kV5 dc5 pm5 cd5 ct5 : Value} {f6 : Addr} {od6 an6 : Option Addr} {sl6 : Array (Option Value)} {oc6 kV6 dc6 pm6 cd6 ct6 : Value} {f7 : Addr} {od7 an7 : Option Addr} {sl7 : Array (Option Value)} {oc7 kV7 dc7 pm7 cd7 ct7 : Value} {f8 : Addr} {od8 an8 : Option Addr} {sl8 : Array (Option Value)} {oc8 kV8 dc8 pm8 cd8 ct8 : Value} {f9 : Addr} {od9 an9 : Option Addr} {sl9 : Array (Option Value)} {oc9 kV9 dc9 pm9 cd9 ct9 : Value} {f10 : Addr} {od10 an10 : Option Addr} {sl10 : Array (Option Value)} {oc10 kV10 dc10 pm10 cd10 ct10 : Value} {f11 : Addr} {od11 an11 : Option Addr} {sl11 : Array (Option Value)} {oc11 kV11 dc11 pm11 cd11 ct11 : Value} {f12 : Addr} {od12 an12 : Option Addr} {sl12 : Array (Option Value)} {oc12 kV12 dc12 pm12 cd12 ct12 : Value} {f13 : Addr} {od13 an13 : Option Addr} {sl13 : Array (Option Value)} {oc13 kV13 dc13 pm13 cd13 ct13 : Value} {f14 : Addr} {od14 an14 : Option Addr} {sl14 : Array (Option Value)} {oc14 kV14 dc14 pm14 cd14 ct14 : Value} {f15 : Addr} {od15 an15 : Option Addr} {sl15 : Array (Option Value)} {oc15 kV15 dc15 pm15 cd15 ct15 : Value} {f16 : Addr} {od16 an16 : Option Addr} {sl16 : Array (Option Value)} {oc16 kV16 dc16 pm16 ct16 : Value} {cM16 PM16 : Addr} {f17 : Addr} {od17 an17 : Option Addr} {sl17 : Array (Option Value)} {oc17 kV17 dc17 pm17 cd17 ct17 : Value} {f18 : Addr} {od18 an18 : Option Addr} {sl18 : Array (Option Value)} {oc18 kV18 dc18 pm18 cd18 ct18 : Value} {f19 : Addr} {od19 an19 : Option Addr} {sl19 : Array (Option Value)} {oc19 kV19 dc19 pm19 cd19 ct19 : Value} {f20 : Addr} {od20 an20 : Option Addr} {sl20 : Array (Option Value)} {oc20 kV20 dc20 pm20 cd20 ct20 : Value} {f21 : Addr} {od21 an21 : Option Addr} {sl21 : Array (Option Value)} {oc21 kV21 dc21 pm21 cd21 ct21 : Value} {f22 : Addr} {od22 an22 : Option Addr} {sl22 : Array (Option Value)} {oc22 kV22 dc22 pm22 cd22 ct22 : Value} {f23 : Addr} {od23 an23 : Option Addr} {sl23 : Array (Option Value)} {oc23 kV23 dc23 pm23 cd23 ct23 : Value} {f24 : Addr} {od24 an24 : Option Addr} {sl24 : Array (Option Value)} {oc24 kV24 dc24 pm24 cd24 ct24 : Value} {f25 : Addr} {od25 an25 : Option Addr} {sl25 : Array (Option Value)} {oc25 kV25 dc25 pm25 cd25 ct25 : Value} {f26 : Addr} {od26 an26 : Option Addr} {sl26 : Array (Option Value)} {oc26 kV26 dc26 pm26 cd26 ct26 : Value} {f27 : Addr} {od27 an27 : Option Addr} {sl27 : Array (Option Value)} {oc27 kV27 dc27 pm27 cd27 ct27 : Value} {f28 : Addr} {od28 an28 : Option Addr} {sl28 : Array (Option Value)} {oc28 kV28 dc28 pm28 cd28 ct28 : Value} {f29 : Addr} {od29 an29 : Option Addr} {sl29 : Array (Option Value)} {oc29 kV29 dc29 pm29 cd29 ct29 : Value} {f30 : Addr} {od30 an30 : Option Addr} {sl30 : Array (Option Value)} {oc30 kV30 dc30 pm30 cd30 ct30 : Value} {f31 : Addr} {od31 an31 : Option Addr} {sl31 : Array (Option Value)} {oc31 kV31 dc31 pm31 cd31 ct31 : Value} {f32 : Addr} {od32 an32 : Option Addr} {sl32 : Array (Option Value)} {oc32 kV32 dc32 pm32 cd32 ct32 : Value} {t_MOST_COINS : Tok} {t_MOST_COIN : Tok} {t_MOST_GAPS : Tok} {t_MOST_PAID : Tok} {t_MOST_WAYS : Tok} {C_BadPurse : Addr} {C_Endless : Addr} {C_TooBig : Addr} {C_BadSum : Addr} {C_TooMany : Addr}
  (a0 : PySem.W.nsIn K mainGlobals "is_within" = some (some (.ref f0))) (l0 : K.lookup f0 = some ⟨oc0, od0, .func (PySem.W.fnOf "is_within" "is_within" (defArgs s_is_within) (defBody s_is_within) (defScope s_is_within) .none kV0 dc0 pm0 an0 cd0 ct0), sl0⟩) (c0 : PySem.W.codeIn K cd0 "is_within" = true) (k0 : PySem.W.keepIn K (.ref f0) = true)
  (a1 : PySem.W.nsIn K mainGlobals "checked" = some (some (.ref f1))) (l1 : K.lookup f1 = some ⟨oc1, od1, .func (PySem.W.fnOf "checked" "checked" (defArgs s_checked) (defBody s_checked) (defScope s_checked) .none kV1 dc1 pm1 an1 cd1 ct1), sl1⟩) (c1 : PySem.W.codeIn K cd1 "checked" = true) (k1 : PySem.W.keepIn K (.ref f1) = true)
  (a2 : PySem.W.nsIn K mainGlobals "common" = some (some (.ref f2))) (l2 : K.lookup f2 = some ⟨oc2, od2, .func (PySem.W.fnOf "common" "common" (defArgs s_common) (defBody s_common) (defScope s_common) .none kV2 dc2 pm2 an2 cd2 ct2), sl2⟩) (c2 : PySem.W.codeIn K cd2 "common" = true) (k2 : PySem.W.keepIn K (.ref f2) = true)
  (a3 : PySem.W.nsIn K mainGlobals "divisor_of" = some (some (.ref f3))) (l3 : K.lookup f3 = some ⟨oc3, od3, .func (PySem.W.fnOf "divisor_of" "divisor_of" (defArgs s_divisor_of) (defBody s_divisor_of) (defScope s_divisor_of) .none kV3 dc3 pm3 an3 cd3 ct3), sl3⟩) (c3 : PySem.W.codeIn K cd3 "divisor_of" = true) (k3 : PySem.W.keepIn K (.ref f3) = true)
  (a4 : PySem.W.nsIn K mainGlobals "table_of" = some (some (.ref f4))) (l4 : K.lookup f4 = some ⟨oc4, od4, .func (PySem.W.fnOf "table_of" "table_of" (defArgs s_table_of) (defBody s_table_of) (defScope s_table_of) .none kV4 dc4 pm4 an4 cd4 ct4), sl4⟩) (c4 : PySem.W.codeIn K cd4 "table_of" = true) (k4 : PySem.W.keepIn K (.ref f4) = true)
  (a5 : PySem.W.nsIn K mainGlobals "needed" = some (some (.ref f5))) (l5 : K.lookup f5 = some ⟨oc5, od5, .func (PySem.W.fnOf "needed" "needed" (defArgs s_needed) (defBody s_needed) (defScope s_needed) .none kV5 dc5 pm5 an5 cd5 ct5), sl5⟩) (c5 : PySem.W.codeIn K cd5 "needed" = true) (k5 : PySem.W.keepIn K (.ref f5) = true)
  (a6 : PySem.W.nsIn K mainGlobals "needless" = some (some (.ref f6))) (l6 : K.lookup f6 = some ⟨oc6, od6, .func (PySem.W.fnOf "needless" "needless" (defArgs s_needless) (defBody s_needless) (defScope s_needless) .none kV6 dc6 pm6 an6 cd6 ct6), sl6⟩) (c6 : PySem.W.codeIn K cd6 "needless" = true) (k6 : PySem.W.keepIn K (.ref f6) = true)
  (a7 : PySem.W.nsIn K mainGlobals "least_purse" = some (some (.ref f7))) (l7 : K.lookup f7 = some ⟨oc7, od7, .func (PySem.W.fnOf "least_purse" "least_purse" (defArgs s_least_purse) (defBody s_least_purse) (defScope s_least_purse) .none kV7 dc7 pm7 an7 cd7 ct7), sl7⟩) (c7 : PySem.W.codeIn K cd7 "least_purse" = true) (k7 : PySem.W.keepIn K (.ref f7) = true)
  (a8 : PySem.W.nsIn K mainGlobals "least_sums" = some (some (.ref f8))) (l8 : K.lookup f8 = some ⟨oc8, od8, .func (PySem.W.fnOf "least_sums" "least_sums" (defArgs s_least_sums) (defBody s_least_sums) (defScope s_least_sums) .none kV8 dc8 pm8 an8 cd8 ct8), sl8⟩) (c8 : PySem.W.codeIn K cd8 "least_sums" = true) (k8 : PySem.W.keepIn K (.ref f8) = true)
  (a9 : PySem.W.nsIn K mainGlobals "is_made" = some (some (.ref f9))) (l9 : K.lookup f9 = some ⟨oc9, od9, .func (PySem.W.fnOf "is_made" "is_made" (defArgs s_is_made) (defBody s_is_made) (defScope s_is_made) .none kV9 dc9 pm9 an9 cd9 ct9), sl9⟩) (c9 : PySem.W.codeIn K cd9 "is_made" = true) (k9 : PySem.W.keepIn K (.ref f9) = true)
  (a10 : PySem.W.nsIn K mainGlobals "look_ends" = some (some (.ref f10))) (l10 : K.lookup f10 = some ⟨oc10, od10, .func (PySem.W.fnOf "look_ends" "look_ends" (defArgs s_look_ends) (defBody s_look_ends) (defScope s_look_ends) .none kV10 dc10 pm10 an10 cd10 ct10), sl10⟩) (c10 : PySem.W.codeIn K cd10 "look_ends" = true) (k10 : PySem.W.keepIn K (.ref f10) = true)
  (a11 : PySem.W.nsIn K mainGlobals "gaps_of" = some (some (.ref f11))) (l11 : K.lookup f11 = some ⟨oc11, od11, .func (PySem.W.fnOf "gaps_of" "gaps_of" (defArgs s_gaps_of) (defBody s_gaps_of) (defScope s_gaps_of) .none kV11 dc11 pm11 an11 cd11 ct11), sl11⟩) (c11 : PySem.W.codeIn K cd11 "gaps_of" = true) (k11 : PySem.W.keepIn K (.ref f11) = true)
  (a12 : PySem.W.nsIn K mainGlobals "greatest_gap" = some (some (.ref f12))) (l12 : K.lookup f12 = some ⟨oc12, od12, .func (PySem.W.fnOf "greatest_gap" "greatest_gap" (defArgs s_greatest_gap) (defBody s_greatest_gap) (defScope s_greatest_gap) .none kV12 dc12 pm12 an12 cd12 ct12), sl12⟩) (c12 : PySem.W.codeIn K cd12 "greatest_gap" = true) (k12 : PySem.W.keepIn K (.ref f12) = true)
  (a13 : PySem.W.nsIn K mainGlobals "ends_of" = some (some (.ref f13))) (l13 : K.lookup f13 = some ⟨oc13, od13, .func (PySem.W.fnOf "ends_of" "ends_of" (defArgs s_ends_of) (defBody s_ends_of) (defScope s_ends_of) .none kV13 dc13 pm13 an13 cd13 ct13), sl13⟩) (c13 : PySem.W.codeIn K cd13 "ends_of" = true) (k13 : PySem.W.keepIn K (.ref f13) = true)
  (a14 : PySem.W.nsIn K mainGlobals "as_purse" = some (some (.ref f14))) (l14 : K.lookup f14 = some ⟨oc14, od14, .func (PySem.W.fnOf "as_purse" "as_purse" (defArgs s_as_purse) (defBody s_as_purse) (defScope s_as_purse) .none kV14 dc14 pm14 an14 cd14 ct14), sl14⟩) (c14 : PySem.W.codeIn K cd14 "as_purse" = true) (k14 : PySem.W.keepIn K (.ref f14) = true)
  (a15 : PySem.W.nsIn K mainGlobals "purse_of" = some (some (.ref f15))) (l15 : K.lookup f15 = some ⟨oc15, od15, .func (PySem.W.fnOf "purse_of" "purse_of" (defArgs s_purse_of) (defBody s_purse_of) (defScope s_purse_of) .none kV15 dc15 pm15 an15 cd15 ct15), sl15⟩) (c15 : PySem.W.codeIn K cd15 "purse_of" = true) (k15 : PySem.W.keepIn K (.ref f15) = true)
  (a16 : PySem.W.nsIn K mainGlobals "without" = some (some (.ref f16))) (l16 : K.lookup f16 = some ⟨oc16, od16, .func (PySem.W.fnOf "without" "without" (defArgs s_without) (defBody s_without) (defScope s_without) .none kV16 dc16 pm16 an16 (.ref cM16) ct16), sl16⟩) (c16 : PySem.W.codeIn K (.ref cM16) "without" = true) (k16 : PySem.W.keepIn K (.ref f16) = true)
  (xt16 : h.get? PM16 = some { cls := .none, data := .fields #[] }) (xh16 : PySem.W.codeHdIn K cM16 PM16 = true) (xn16 : K.lookup PM16 = none)
  (a17 : PySem.W.nsIn K mainGlobals "children_of" = some (some (.ref f17))) (l17 : K.lookup f17 = some ⟨oc17, od17, .func (PySem.W.fnOf "children_of" "children_of" (defArgs s_children_of) (defBody s_children_of) (defScope s_children_of) .none kV17 dc17 pm17 an17 cd17 ct17), sl17⟩) (c17 : PySem.W.codeIn K cd17 "children_of" = true) (k17 : PySem.W.keepIn K (.ref f17) = true)
  (a18 : PySem.W.nsIn K mainGlobals "all_with" = some (some (.ref f18))) (l18 : K.lookup f18 = some ⟨oc18, od18, .func (PySem.W.fnOf "all_with" "all_with" (defArgs s_all_with) (defBody s_all_with) (defScope s_all_with) .none kV18 dc18 pm18 an18 cd18 ct18), sl18⟩) (c18 : PySem.W.codeIn K cd18 "all_with" = true) (k18 : PySem.W.keepIn K (.ref f18) = true)
  (a19 : PySem.W.nsIn K mainGlobals "look_paid" = some (some (.ref f19))) (l19 : K.lookup f19 = some ⟨oc19, od19, .func (PySem.W.fnOf "look_paid" "look_paid" (defArgs s_look_paid) (defBody s_look_paid) (defScope s_look_paid) .none kV19 dc19 pm19 an19 cd19 ct19), sl19⟩) (c19 : PySem.W.codeIn K cd19 "look_paid" = true) (k19 : PySem.W.keepIn K (.ref f19) = true)
  (a20 : PySem.W.nsIn K mainGlobals "ways_up_to" = some (some (.ref f20))) (l20 : K.lookup f20 = some ⟨oc20, od20, .func (PySem.W.fnOf "ways_up_to" "ways_up_to" (defArgs s_ways_up_to) (defBody s_ways_up_to) (defScope s_ways_up_to) .none kV20 dc20 pm20 an20 cd20 ct20), sl20⟩) (c20 : PySem.W.codeIn K cd20 "ways_up_to" = true) (k20 : PySem.W.keepIn K (.ref f20) = true)
  (a21 : PySem.W.nsIn K mainGlobals "count_ways" = some (some (.ref f21))) (l21 : K.lookup f21 = some ⟨oc21, od21, .func (PySem.W.fnOf "count_ways" "count_ways" (defArgs s_count_ways) (defBody s_count_ways) (defScope s_count_ways) .none kV21 dc21 pm21 an21 cd21 ct21), sl21⟩) (c21 : PySem.W.codeIn K cd21 "count_ways" = true) (k21 : PySem.W.keepIn K (.ref f21) = true)
  (a22 : PySem.W.nsIn K mainGlobals "listed" = some (some (.ref f22))) (l22 : K.lookup f22 = some ⟨oc22, od22, .func (PySem.W.fnOf "listed" "listed" (defArgs s_listed) (defBody s_listed) (defScope s_listed) .none kV22 dc22 pm22 an22 cd22 ct22), sl22⟩) (c22 : PySem.W.codeIn K cd22 "listed" = true) (k22 : PySem.W.keepIn K (.ref f22) = true)
  (a23 : PySem.W.nsIn K mainGlobals "all_ways" = some (some (.ref f23))) (l23 : K.lookup f23 = some ⟨oc23, od23, .func (PySem.W.fnOf "all_ways" "all_ways" (defArgs s_all_ways) (defBody s_all_ways) (defScope s_all_ways) .none kV23 dc23 pm23 an23 cd23 ct23), sl23⟩) (c23 : PySem.W.codeIn K cd23 "all_ways" = true) (k23 : PySem.W.keepIn K (.ref f23) = true)
  (a24 : PySem.W.nsIn K mainGlobals "_law_cell" = some (some (.ref f24))) (l24 : K.lookup f24 = some ⟨oc24, od24, .func (PySem.W.fnOf "_law_cell" "_law_cell" (defArgs s_l_cell) (defBody s_l_cell) (defScope s_l_cell) .none kV24 dc24 pm24 an24 cd24 ct24), sl24⟩) (c24 : PySem.W.codeIn K cd24 "_law_cell" = true) (k24 : PySem.W.keepIn K (.ref f24) = true)
  (a25 : PySem.W.nsIn K mainGlobals "_law_mix" = some (some (.ref f25))) (l25 : K.lookup f25 = some ⟨oc25, od25, .func (PySem.W.fnOf "_law_mix" "_law_mix" (defArgs s_l_mix) (defBody s_l_mix) (defScope s_l_mix) .none kV25 dc25 pm25 an25 cd25 ct25), sl25⟩) (c25 : PySem.W.codeIn K cd25 "_law_mix" = true) (k25 : PySem.W.keepIn K (.ref f25) = true)
  (a26 : PySem.W.nsIn K mainGlobals "_law_twin" = some (some (.ref f26))) (l26 : K.lookup f26 = some ⟨oc26, od26, .func (PySem.W.fnOf "_law_twin" "_law_twin" (defArgs s_l_twin) (defBody s_l_twin) (defScope s_l_twin) .none kV26 dc26 pm26 an26 cd26 ct26), sl26⟩) (c26 : PySem.W.codeIn K cd26 "_law_twin" = true) (k26 : PySem.W.keepIn K (.ref f26) = true)
  (a27 : PySem.W.nsIn K mainGlobals "_law_emptied" = some (some (.ref f27))) (l27 : K.lookup f27 = some ⟨oc27, od27, .func (PySem.W.fnOf "_law_emptied" "_law_emptied" (defArgs s_l_emptied) (defBody s_l_emptied) (defScope s_l_emptied) .none kV27 dc27 pm27 an27 cd27 ct27), sl27⟩) (c27 : PySem.W.codeIn K cd27 "_law_emptied" = true) (k27 : PySem.W.keepIn K (.ref f27) = true)
  (a28 : PySem.W.nsIn K mainGlobals "_law_coins" = some (some (.ref f28))) (l28 : K.lookup f28 = some ⟨oc28, od28, .func (PySem.W.fnOf "_law_coins" "_law_coins" (defArgs s_l_coins) (defBody s_l_coins) (defScope s_l_coins) .none kV28 dc28 pm28 an28 cd28 ct28), sl28⟩) (c28 : PySem.W.codeIn K cd28 "_law_coins" = true) (k28 : PySem.W.keepIn K (.ref f28) = true)
  (a29 : PySem.W.nsIn K mainGlobals "_law_divisor" = some (some (.ref f29))) (l29 : K.lookup f29 = some ⟨oc29, od29, .func (PySem.W.fnOf "_law_divisor" "_law_divisor" (defArgs s_l_divisor) (defBody s_l_divisor) (defScope s_l_divisor) .none kV29 dc29 pm29 an29 cd29 ct29), sl29⟩) (c29 : PySem.W.codeIn K cd29 "_law_divisor" = true) (k29 : PySem.W.keepIn K (.ref f29) = true)
  (a30 : PySem.W.nsIn K mainGlobals "_law_plain" = some (some (.ref f30))) (l30 : K.lookup f30 = some ⟨oc30, od30, .func (PySem.W.fnOf "_law_plain" "_law_plain" (defArgs s_l_plain) (defBody s_l_plain) (defScope s_l_plain) .none kV30 dc30 pm30 an30 cd30 ct30), sl30⟩) (c30 : PySem.W.codeIn K cd30 "_law_plain" = true) (k30 : PySem.W.keepIn K (.ref f30) = true)
  (a31 : PySem.W.nsIn K mainGlobals "_law_lists" = some (some (.ref f31))) (l31 : K.lookup f31 = some ⟨oc31, od31, .func (PySem.W.fnOf "_law_lists" "_law_lists" (defArgs s_l_lists) (defBody s_l_lists) (defScope s_l_lists) .none kV31 dc31 pm31 an31 cd31 ct31), sl31⟩) (c31 : PySem.W.codeIn K cd31 "_law_lists" = true) (k31 : PySem.W.keepIn K (.ref f31) = true)
  (a32 : PySem.W.nsIn K mainGlobals "law" = some (some (.ref f32))) (l32 : K.lookup f32 = some ⟨oc32, od32, .func (PySem.W.fnOf "law" "law" (defArgs s_law) (defBody s_law) (defScope s_law) .none kV32 dc32 pm32 an32 cd32 ct32), sl32⟩) (c32 : PySem.W.codeIn K cd32 "law" = true) (k32 : PySem.W.keepIn K (.ref f32) = true)
  (z_int : PySem.W.nsIn K mainGlobals "int" = some none)
  (z_isinstance : PySem.W.nsIn K mainGlobals "isinstance" = some none)
  (z_bool : PySem.W.nsIn K mainGlobals "bool" = some none)
  (z_tuple : PySem.W.nsIn K mainGlobals "tuple" = some none)
  (z_len : PySem.W.nsIn K mainGlobals "len" = some none)
  (z_range : PySem.W.nsIn K mainGlobals "range" = some none)
  (z_enumerate : PySem.W.nsIn K mainGlobals "enumerate" = some none)
  (z_list : PySem.W.nsIn K mainGlobals "list" = some none)
  (z_sorted : PySem.W.nsIn K mainGlobals "sorted" = some none)
  (z_max : PySem.W.nsIn K mainGlobals "max" = some none)
  (z_set : PySem.W.nsIn K mainGlobals "set" = some none)
  (v_MOST_COINS : PySem.W.nsIn K mainGlobals "MOST_COINS" = some (some (.int 40 t_MOST_COINS)))
  (v_MOST_COIN : PySem.W.nsIn K mainGlobals "MOST_COIN" = some (some (.int 400 t_MOST_COIN)))
  (v_MOST_GAPS : PySem.W.nsIn K mainGlobals "MOST_GAPS" = some (some (.int 7 t_MOST_GAPS)))
  (v_MOST_PAID : PySem.W.nsIn K mainGlobals "MOST_PAID" = some (some (.int 400 t_MOST_PAID)))
  (v_MOST_WAYS : PySem.W.nsIn K mainGlobals "MOST_WAYS" = some (some (.int 200 t_MOST_WAYS)))
  (xa_BadPurse : PySem.W.nsIn K mainGlobals "BadPurse" = some (some (.ref C_BadPurse)))
  (xa_Endless : PySem.W.nsIn K mainGlobals "Endless" = some (some (.ref C_Endless)))
  (xa_TooBig : PySem.W.nsIn K mainGlobals "TooBig" = some (some (.ref C_TooBig)))
  (xa_BadSum : PySem.W.nsIn K mainGlobals "BadSum" = some (some (.ref C_BadSum)))
  (xa_TooMany : PySem.W.nsIn K mainGlobals "TooMany" = some (some (.ref C_TooMany)))
  (xb_BadPurse : PySem.W.excIn K C_BadPurse [.type "ValueError", .type "Exception", .type "BaseException", .type "object"] "ValueError.__new__" = true) (xc_BadPurse : PySem.W.keepIn K (.ref C_BadPurse) = true) (xd_BadPurse : PySem.W.subIn K (.ref C_BadPurse) (.type "BaseException") = some true) (xe_BadPurse : PySem.W.typeIn K (.ref C_BadPurse) = some (.type "type"))
  (xb_Endless : PySem.W.excIn K C_Endless [.type "ValueError", .type "Exception", .type "BaseException", .type "object"] "ValueError.__new__" = true) (xc_Endless : PySem.W.keepIn K (.ref C_Endless) = true) (xd_Endless : PySem.W.subIn K (.ref C_Endless) (.type "BaseException") = some true) (xe_Endless : PySem.W.typeIn K (.ref C_Endless) = some (.type "type"))
  (xb_TooBig : PySem.W.excIn K C_TooBig [.type "ValueError", .type "Exception", .type "BaseException", .type "object"] "ValueError.__new__" = true) (xc_TooBig : PySem.W.keepIn K (.ref C_TooBig) = true) (xd_TooBig : PySem.W.subIn K (.ref C_TooBig) (.type "BaseException") = some true) (xe_TooBig : PySem.W.typeIn K (.ref C_TooBig) = some (.type "type"))
  (xb_BadSum : PySem.W.excIn K C_BadSum [.type "ValueError", .type "Exception", .type "BaseException", .type "object"] "ValueError.__new__" = true) (xc_BadSum : PySem.W.keepIn K (.ref C_BadSum) = true) (xd_BadSum : PySem.W.subIn K (.ref C_BadSum) (.type "BaseException") = some true) (xe_BadSum : PySem.W.typeIn K (.ref C_BadSum) = some (.type "type"))
  (xb_TooMany : PySem.W.excIn K C_TooMany [.type "ValueError", .type "Exception", .type "BaseException", .type "object"] "ValueError.__new__" = true) (xc_TooMany : PySem.W.keepIn K (.ref C_TooMany) = true) (xd_TooMany : PySem.W.subIn K (.ref C_TooMany) (.type "BaseException") = some true) (xe_TooMany : PySem.W.typeIn K (.ref C_TooMany) = some (.type "type")) :
  LamX.LawAtS l w K (L2.CX l.prog w) 12 63 "_law_script" mg fa h := by
  have e := hfa.symm.trans (PySem.W.mg_of X G a32)
  cases e
  have F0 := fun_mk (st := s_is_within) l0 c0 k0
  have F1 := fun_mk (st := s_checked) l1 c1 k1
  have F2 := fun_mk (st := s_common) l2 c2 k2
  have F3 := fun_mk (st := s_divisor_of) l3 c3 k3
  have F4 := fun_mk (st := s_table_of) l4 c4 k4
  have F5 := fun_mk (st := s_needed) l5 c5 k5
  have F6 := fun_mk (st := s_needless) l6 c6 k6
  have F7 := fun_mk (st := s_least_purse) l7 c7 k7
  have F8 := fun_mk (st := s_least_sums) l8 c8 k8
  have F9 := fun_mk (st := s_is_made) l9 c9 k9
  have F10 := fun_mk (st := s_look_ends) l10 c10 k10
  have F11 := fun_mk (st := s_gaps_of) l11 c11 k11
  have F12 := fun_mk (st := s_greatest_gap) l12 c12 k12
  have F13 := fun_mk (st := s_ends_of) l13 c13 k13
  have F14 := fun_mk (st := s_as_purse) l14 c14 k14
  have F15 := fun_mk (st := s_purse_of) l15 c15 k15
  have F16 := fun_mk (st := s_without) l16 c16 k16
  have F17 := fun_mk (st := s_children_of) l17 c17 k17
  have F18 := fun_mk (st := s_all_with) l18 c18 k18
  have F19 := fun_mk (st := s_look_paid) l19 c19 k19
  have F20 := fun_mk (st := s_ways_up_to) l20 c20 k20
  have F21 := fun_mk (st := s_count_ways) l21 c21 k21
  have F22 := fun_mk (st := s_listed) l22 c22 k22
  have F23 := fun_mk (st := s_all_ways) l23 c23 k23
  have F24 := fun_mk (st := s_l_cell) l24 c24 k24
  have F25 := fun_mk (st := s_l_mix) l25 c25 k25
  have F26 := fun_mk (st := s_l_twin) l26 c26 k26
  have F27 := fun_mk (st := s_l_emptied) l27 c27 k27
  have F28 := fun_mk (st := s_l_coins) l28 c28 k28
  have F29 := fun_mk (st := s_l_divisor) l29 c29 k29
  have F30 := fun_mk (st := s_l_plain) l30 c30 k30
  have F31 := fun_mk (st := s_l_lists) l31 c31 k31
  have F32 := fun_mk (st := s_law) l32 c32 k32
  have m_int := PySem.W.mg_none_of X G z_int
  have m_isinstance := PySem.W.mg_none_of X G z_isinstance
  have m_bool := PySem.W.mg_none_of X G z_bool
  have m_tuple := PySem.W.mg_none_of X G z_tuple
  have m_len := PySem.W.mg_none_of X G z_len
  have m_range := PySem.W.mg_none_of X G z_range
  have m_enumerate := PySem.W.mg_none_of X G z_enumerate
  have m_list := PySem.W.mg_none_of X G z_list
  have m_sorted := PySem.W.mg_none_of X G z_sorted
  have m_max := PySem.W.mg_none_of X G z_max
  have m_set := PySem.W.mg_none_of X G z_set
  have c_MOST_COINS := PySem.W.mg_of X G v_MOST_COINS
  have c_MOST_COIN := PySem.W.mg_of X G v_MOST_COIN
  have c_MOST_GAPS := PySem.W.mg_of X G v_MOST_GAPS
  have c_MOST_PAID := PySem.W.mg_of X G v_MOST_PAID
  have c_MOST_WAYS := PySem.W.mg_of X G v_MOST_WAYS
  have X_BadPurse : ExC K mg "BadPurse" C_BadPurse := ⟨PySem.W.mg_of X G xa_BadPurse, xb_BadPurse, xc_BadPurse, xd_BadPurse, xe_BadPurse⟩
  have X_Endless : ExC K mg "Endless" C_Endless := ⟨PySem.W.mg_of X G xa_Endless, xb_Endless, xc_Endless, xd_Endless, xe_Endless⟩
  have X_TooBig : ExC K mg "TooBig" C_TooBig := ⟨PySem.W.mg_of X G xa_TooBig, xb_TooBig, xc_TooBig, xd_TooBig, xe_TooBig⟩
  have X_BadSum : ExC K mg "BadSum" C_BadSum := ⟨PySem.W.mg_of X G xa_BadSum, xb_BadSum, xc_BadSum, xd_BadSum, xe_BadSum⟩
  have X_TooMany : ExC K mg "TooMany" C_TooMany := ⟨PySem.W.mg_of X G xa_TooMany, xb_TooMany, xc_TooMany, xd_TooMany, xe_TooMany⟩
  have g_BadPurse := PySem.W.mg_of X G xa_BadPurse
  have g_Endless := PySem.W.mg_of X G xa_Endless
  have g_TooBig := PySem.W.mg_of X G xa_TooBig
  have g_BadSum := PySem.W.mg_of X G xa_BadSum
  have g_TooMany := PySem.W.mg_of X G xa_TooMany
  letI : Tb := ⟨[(PM16, "without.<locals>.<lambda>")], fun t => match t with | 0 => (mkLm "without.<locals>.<lambda>" (lamIn (defBody (topS 31))) ["coin", "least"]) | _ => ⟨"", default, .Constant .none 0 ⟨0, 0, 0, 0⟩, default, []⟩⟩
  have TT : ∀ p ∈ [(cM16, PM16)], h.get? p.2 = some ({ cls := .none, data := .fields #[] } : Obj) := (fun p hp => by simp only [List.mem_cons, List.not_mem_nil, or_false] at hp; rcases hp with rfl <;> first | exact xt16)
  refine ⟨PySem.W.fnOf "law" "law" (defArgs s_law) (defBody s_law) (defScope s_law) .none kV32 dc32 pm32 an32 cd32 ct32, [(cM16, PM16)], GM.spLawT K, TT, (fun p hp => by simp only [List.mem_cons, List.not_mem_nil, or_false] at hp; rcases hp with rfl <;> first | exact xn16), (fun p hp => by simp only [List.mem_cons, List.not_mem_nil, or_false] at hp; rcases hp with rfl <;> first | exact PySem.W.codeHd_of_K X xh16), fun s v => .of_eq rfl, fun H a ns hl _ hT hS => ⟨a, ns, rfl, hS, hl, (fun p hp => by change p ∈ [(PM16, ("without.<locals>.<lambda>" : Str))] at hp; simp only [List.mem_cons, List.not_mem_nil, or_false] at hp; rcases hp with rfl <;> first | exact LamX.TabS.nil (hT (cM16, PM16) (by simp))), fun _ => rfl⟩, fun base _ _ TB => ?_⟩
  have D_is_within : DefOk l.prog w K mg base "is_within" 1 ["thing", "low", "high"] f_is_within := .of F0 (PySem.W.mg_of X G a0) (F0.binds fun _ _ _ _ _ _ us hl => match us, hl with | [_, _, _], _ => rfl) (ok_is_within m_int m_isinstance m_bool F0)
  have D_checked : DefOk l.prog w K mg base "checked" 2 ["purse"] f_checked := .of F1 (PySem.W.mg_of X G a1) (F1.binds fun _ _ _ _ _ _ us hl => match us, hl with | [_], _ => rfl) (ok_checked D_is_within m_tuple m_isinstance m_len c_MOST_COINS c_MOST_COIN X_BadPurse F1)
  have D_common : DefOk l.prog w K mg base "common" 1 ["one", "other"] f_common := .of F2 (PySem.W.mg_of X G a2) (F2.binds fun _ _ _ _ _ _ us hl => match us, hl with | [_, _], _ => rfl) (ok_common  F2)
  have D_divisor_of : DefOk l.prog w K mg base "divisor_of" 3 ["purse"] f_divisor_of := .of F3 (PySem.W.mg_of X G a3) (F3.binds fun _ _ _ _ _ _ us hl => match us, hl with | [_], _ => rfl) (ok_divisor_of D_checked D_common F3)
  have D_table_of : DefOk l.prog w K mg base "table_of" 1 ["coins", "last"] f_table_of := .of F4 (PySem.W.mg_of X G a4) (F4.binds fun _ _ _ _ _ _ us hl => match us, hl with | [_, _], _ => rfl) (ok_table_of m_range F4)
  have D_needed : DefOk l.prog w K mg base "needed" 2 ["coins"] f_needed := .of F5 (PySem.W.mg_of X G a5) (F5.binds fun _ _ _ _ _ _ us hl => match us, hl with | [_], _ => rfl) (ok_needed D_table_of F5)
  have D_needless : DefOk l.prog w K mg base "needless" 3 ["purse"] f_needless := .of F6 (PySem.W.mg_of X G a6) (F6.binds fun _ _ _ _ _ _ us hl => match us, hl with | [_], _ => rfl) (ok_needless D_needed D_checked F6)
  have D_least_purse : DefOk l.prog w K mg base "least_purse" 3 ["purse"] f_least_purse := .of F7 (PySem.W.mg_of X G a7) (F7.binds fun _ _ _ _ _ _ us hl => match us, hl with | [_], _ => rfl) (ok_least_purse D_needed D_checked m_tuple F7)
  have D_least_sums : DefOk l.prog w K mg base "least_sums" 3 ["purse"] f_least_sums := .of F8 (PySem.W.mg_of X G a8) (F8.binds fun _ _ _ _ _ _ us hl => match us, hl with | [_], _ => rfl) (ok_least_sums D_checked m_range F8)
  have D_is_made : DefOk l.prog w K mg base "is_made" 1 ["least", "number"] f_is_made := .of F9 (PySem.W.mg_of X G a9) (F9.binds fun _ _ _ _ _ _ us hl => match us, hl with | [_, _], _ => rfl) (ok_is_made m_len F9)
  have D_look_ends : DefOk l.prog w K mg base "look_ends" 4 ["purse"] f_look_ends := .of F10 (PySem.W.mg_of X G a10) (F10.binds fun _ _ _ _ _ _ us hl => match us, hl with | [_], _ => rfl) (ok_look_ends D_divisor_of X_Endless F10)
  have D_gaps_of : DefOk l.prog w K mg base "gaps_of" 5 ["purse"] f_gaps_of := .of F11 (PySem.W.mg_of X G a11) (F11.binds fun _ _ _ _ _ _ us hl => match us, hl with | [_], _ => rfl) (ok_gaps_of D_look_ends D_least_sums m_enumerate m_range m_list m_sorted F11)
  have D_greatest_gap : DefOk l.prog w K mg base "greatest_gap" 5 ["purse"] f_greatest_gap := .of F12 (PySem.W.mg_of X G a12) (F12.binds fun _ _ _ _ _ _ us hl => match us, hl with | [_], _ => rfl) (ok_greatest_gap D_look_ends D_least_sums m_max F12)
  have D_ends_of : DefOk l.prog w K mg base "ends_of" 6 ["purse"] f_ends_of := .of F13 (PySem.W.mg_of X G a13) (F13.binds fun _ _ _ _ _ _ us hl => match us, hl with | [_], _ => rfl) (ok_ends_of D_gaps_of D_least_sums D_is_made F13)
  have D_as_purse : DefOk l.prog w K mg base "as_purse" 1 ["coins"] f_as_purse := .of F14 (PySem.W.mg_of X G a14) (F14.binds fun _ _ _ _ _ _ us hl => match us, hl with | [_], _ => rfl) (ok_as_purse m_len m_tuple c_MOST_COINS c_MOST_COIN X_TooBig F14)
  have L_lam : LamOk l.prog w K mg base 2 lamT := ok_lamT D_is_made rfl
  have D_purse_of : DefOk l.prog w K mg base "purse_of" 3 ["has"] f_purse_of := .of F15 (PySem.W.mg_of X G a15) (F15.binds fun _ _ _ _ _ _ us hl => match us, hl with | [_], _ => rfl) (ok_purse_of D_as_purse L_lam m_range m_sorted c_MOST_COIN X_TooBig F15)
  have D_without : DefOk l.prog w K mg base "without" 4 ["purse", "coin"] f_without := .of F16 (PySem.W.mg_of X G a16) (F16.binds fun _ _ _ _ _ _ us hl => match us, hl with | [_, _], _ => rfl) (ok_without D_least_sums D_purse_of (TB (cM16, PM16) (.head _)) rfl (.head _) (by intro p hp e; change p ∈ [(PM16, ("without.<locals>.<lambda>" : Str))] at hp; simp only [List.mem_cons, List.not_mem_nil, or_false] at hp; rcases hp with rfl <;> first | rfl ) rfl F16)
  have D_children_of : DefOk l.prog w K mg base "children_of" 6 ["purse"] f_children_of := .of F17 (PySem.W.mg_of X G a17) (F17.binds fun _ _ _ _ _ _ us hl => match us, hl with | [_], _ => rfl) (ok_children_of D_greatest_gap D_least_purse D_without m_sorted F17)
  have D_all_with : DefOk l.prog w K mg base "all_with" 7 ["many"] f_all_with := .of F18 (PySem.W.mg_of X G a18) (F18.binds fun _ _ _ _ _ _ us hl => match us, hl with | [_], _ => rfl) (ok_all_with D_is_within D_children_of m_range m_sorted c_MOST_GAPS X_BadSum F18)
  have D_look_paid : DefOk l.prog w K mg base "look_paid" 3 ["purse", "number"] f_look_paid := .of F19 (PySem.W.mg_of X G a19) (F19.binds fun _ _ _ _ _ _ us hl => match us, hl with | [_, _], _ => rfl) (ok_look_paid D_checked D_is_within c_MOST_PAID X_BadSum F19)
  have D_ways_up_to : DefOk l.prog w K mg base "ways_up_to" 1 ["coins", "last"] f_ways_up_to := .of F20 (PySem.W.mg_of X G a20) (F20.binds fun _ _ _ _ _ _ us hl => match us, hl with | [_, _], _ => rfl) (ok_ways_up_to m_range F20)
  have D_count_ways : DefOk l.prog w K mg base "count_ways" 4 ["purse", "number"] f_count_ways := .of F21 (PySem.W.mg_of X G a21) (F21.binds fun _ _ _ _ _ _ us hl => match us, hl with | [_, _], _ => rfl) (ok_count_ways D_look_paid D_ways_up_to F21)
  have D_listed : DefOk l.prog w K mg base "listed" 9 ["coins", "number"] f_listed := dr_listed D_ways_up_to m_range F22 (PySem.W.mg_of X G a22) (F22.binds fun _ _ _ _ _ _ us hl => match us, hl with | [_, _], _ => rfl) 7
  have D_all_ways : DefOk l.prog w K mg base "all_ways" 10 ["purse", "number"] f_all_ways := .of F23 (PySem.W.mg_of X G a23) (F23.binds fun _ _ _ _ _ _ us hl => match us, hl with | [_, _], _ => rfl) (ok_all_ways D_count_ways D_listed c_MOST_WAYS X_TooMany F23)
  have D_l_cell : DefOk l.prog w K mg base "_law_cell" 1 ["_law_script", "_law_k"] f_l_cell := .of F24 (PySem.W.mg_of X G a24) (F24.binds fun _ _ _ _ _ _ us hl => match us, hl with | [_, _], _ => rfl) (ok_l_cell m_len F24)
  have D_l_mix : DefOk l.prog w K mg base "_law_mix" 1 ["_law_cell_here", "_law_prime", "_law_many"] f_l_mix := .of F25 (PySem.W.mg_of X G a25) (F25.binds fun _ _ _ _ _ _ us hl => match us, hl with | [_, _, _], _ => rfl) (ok_l_mix  F25)
  have D_l_twin2 : DefOk l.prog w K mg base "_law_twin" 3 ["_law_thing"] (f_l_twin_n 2) := dr_l_twin m_list m_isinstance F26 (PySem.W.mg_of X G a26) (F26.binds fun _ _ _ _ _ _ us hl => match us, hl with | [_], _ => rfl) 2
  have DT_l_twin : DefOk l.prog w K mg base "_law_twin" 4 ["_law_thing"] (twinG (f_l_twin_n 2) rowD) := .of F26 (PySem.W.mg_of X G a26) (F26.binds fun _ _ _ _ _ _ us hl => match us, hl with | [_], _ => rfl) (ok_l_twin twin_row D_l_twin2 m_list m_isinstance F26)
  have D_l_emptied0 : DefOk l.prog w K mg base "_law_emptied" 1 ["_law_thing"] f_l_emptied0 := .of F27 (PySem.W.mg_of X G a27) (F27.binds fun _ _ _ _ _ _ us hl => match us, hl with | [_], _ => rfl) (ok_l_emptied0 m_list m_isinstance F27)
  have DE_l_emptied : DefS l.prog w K mg base "_law_emptied" 2 ["_law_thing"] (spE K f_l_emptied0) := ⟨⟨_, _, ok_l_emptied D_l_emptied0 m_list m_isinstance F27, PySem.W.mg_of X G a27, F27.kp, F27.binds fun _ _ _ _ _ _ us hl => match us, hl with | [_], _ => rfl⟩⟩
  have D_l_coins : DefOk l.prog w K mg base "_law_coins" 2 ["_law_script", "_law_at", "_law_most"] f_l_coins := .of F28 (PySem.W.mg_of X G a28) (F28.binds fun _ _ _ _ _ _ us hl => match us, hl with | [_, _, _], _ => rfl) (ok_l_coins D_l_mix D_l_cell m_range m_sorted m_set F28)
  have D_l_divisor : DefOk l.prog w K mg base "_law_divisor" 1 ["_law_coins_here"] f_l_divisor := .of F29 (PySem.W.mg_of X G a29) (F29.binds fun _ _ _ _ _ _ us hl => match us, hl with | [_], _ => rfl) (ok_l_divisor m_range m_max F29)
  have D_l_plain : DefOk l.prog w K mg base "_law_plain" 3 ["_law_script", "_law_at"] f_l_plain := .of F30 (PySem.W.mg_of X G a30) (F30.binds fun _ _ _ _ _ _ us hl => match us, hl with | [_, _], _ => rfl) (ok_l_plain D_l_mix D_l_cell D_l_coins D_l_divisor m_len m_sorted m_set m_tuple F30)
  have D_l_lists : DefOk l.prog w K mg base "_law_lists" 11 ["_law_purse", "_law_many", "_law_number"] f_l_lists := .of F31 (PySem.W.mg_of X G a31) (F31.binds fun _ _ _ _ _ _ us hl => match us, hl with | [_, _, _], _ => rfl) (ok_l_lists D_all_with D_ends_of D_gaps_of D_least_sums D_needless D_count_ways D_all_ways D_children_of F31)
  exact spLawT_of (spLaw_of hf (ok_law D_l_plain D_l_cell D_l_lists D_gaps_of DT_l_twin DE_l_emptied emp_flat m_len F32))
end GP
open PySem PySem.W PyProof.Rows
set_option maxHeartbeats 0 in
theorem PySem.Challenge.cw_coinyard_k28_nothing_is_kept_holds : PySem.Challenge.rw_coinyard_k28_nothing_is_kept.Holds := by
  w_on; o_law; k_head; (case hw => w_witness2)
  k_fill
  refine LamX.walk_ofTs (l := PySem.Challenge.rw_coinyard_k28_nothing_is_kept) (n := 63) (k := 12) (x := "_law_script") (CX := fun w => L2.CX PySem.Challenge.rw_coinyard_k28_nothing_is_kept.prog w) rfl (by decide) rfl ⟨rfl, by decide, by decide⟩ (fun w h Y => PySem.W.km_in_of Y) ?F (fun _ _ _ _ _ h => haveI := GP.tb0; GM.cx_none h)
  case F =>
    intro w mg fa h Y KX G hmg
    have TT := PySem.W.km_tabs_of Y
    refine' GP.all_mk KX G hmg GP.law_true ?a0 ?l0 ?c0 ?k0 ?a1 ?l1 ?c1 ?k1 ?a2 ?l2 ?c2 ?k2 ?a3 ?l3 ?c3 ?k3 ?a4 ?l4 ?c4 ?k4 ?a5 ?l5 ?c5 ?k5 ?a6 ?l6 ?c6 ?k6 ?a7 ?l7 ?c7 ?k7 ?a8 ?l8 ?c8 ?k8 ?a9 ?l9 ?c9 ?k9 ?a10 ?l10 ?c10 ?k10 ?a11 ?l11 ?c11 ?k11 ?a12 ?l12 ?c12 ?k12 ?a13 ?l13 ?c13 ?k13 ?a14 ?l14 ?c14 ?k14 ?a15 ?l15 ?c15 ?k15 ?a16 ?l16 ?c16 ?k16 ?xt16 ?xh16 ?xn16 ?a17 ?l17 ?c17 ?k17 ?a18 ?l18 ?c18 ?k18 ?a19 ?l19 ?c19 ?k19 ?a20 ?l20 ?c20 ?k20 ?a21 ?l21 ?c21 ?k21 ?a22 ?l22 ?c22 ?k22 ?a23 ?l23 ?c23 ?k23 ?a24 ?l24 ?c24 ?k24 ?a25 ?l25 ?c25 ?k25 ?a26 ?l26 ?c26 ?k26 ?a27 ?l27 ?c27 ?k27 ?a28 ?l28 ?c28 ?k28 ?a29 ?l29 ?c29 ?k29 ?a30 ?l30 ?c30 ?k30 ?a31 ?l31 ?c31 ?k31 ?a32 ?l32 ?c32 ?k32 ?z_int ?z_isinstance ?z_bool ?z_tuple ?z_len ?z_range ?z_enumerate ?z_list ?z_sorted ?z_max ?z_set ?v_MOST_COINS ?v_MOST_COIN ?v_MOST_GAPS ?v_MOST_PAID ?v_MOST_WAYS ?xa_BadPurse ?xa_Endless ?xa_TooBig ?xa_BadSum ?xa_TooMany ?xb_BadPurse ?xc_BadPurse ?xd_BadPurse ?xe_BadPurse ?xb_Endless ?xc_Endless ?xd_Endless ?xe_Endless ?xb_TooBig ?xc_TooBig ?xd_TooBig ?xe_TooBig ?xb_BadSum ?xc_BadSum ?xd_BadSum ?xe_BadSum ?xb_TooMany ?xc_TooMany ?xd_TooMany ?xe_TooMany
    (case a0 => k_is); (case l0 => k_is); (case c0 => k_is); (case k0 => k_is); (case a1 => k_is); (case l1 => k_is); (case c1 => k_is); (case k1 => k_is); (case a2 => k_is); (case l2 => k_is); (case c2 => k_is); (case k2 => k_is); (case a3 => k_is); (case l3 => k_is); (case c3 => k_is); (case k3 => k_is); (case a4 => k_is); (case l4 => k_is); (case c4 => k_is); (case k4 => k_is); (case a5 => k_is); (case l5 => k_is); (case c5 => k_is); (case k5 => k_is); (case a6 => k_is); (case l6 => k_is); (case c6 => k_is); (case k6 => k_is); (case a7 => k_is); (case l7 => k_is); (case c7 => k_is); (case k7 => k_is); (case a8 => k_is); (case l8 => k_is); (case c8 => k_is); (case k8 => k_is); (case a9 => k_is); (case l9 => k_is); (case c9 => k_is); (case k9 => k_is); (case a10 => k_is); (case l10 => k_is); (case c10 => k_is); (case k10 => k_is); (case a11 => k_is); (case l11 => k_is); (case c11 => k_is); (case k11 => k_is); (case a12 => k_is); (case l12 => k_is); (case c12 => k_is); (case k12 => k_is); (case a13 => k_is); (case l13 => k_is); (case c13 => k_is); (case k13 => k_is); (case a14 => k_is); (case l14 => k_is); (case c14 => k_is); (case k14 => k_is); (case a15 => k_is); (case l15 => k_is); (case c15 => k_is); (case k15 => k_is); (case a16 => k_is); (case l16 => k_is); (case c16 => k_is); (case k16 => k_is); (first | ((case xt16 => exact TT _ (.head _)); (case xh16 => first | exact rfl | decide +kernel))); (case xn16 => first | exact rfl | decide +kernel); (case a17 => k_is); (case l17 => k_is); (case c17 => k_is); (case k17 => k_is); (case a18 => k_is); (case l18 => k_is); (case c18 => k_is); (case k18 => k_is); (case a19 => k_is); (case l19 => k_is); (case c19 => k_is); (case k19 => k_is); (case a20 => k_is); (case l20 => k_is); (case c20 => k_is); (case k20 => k_is); (case a21 => k_is); (case l21 => k_is); (case c21 => k_is); (case k21 => k_is); (case a22 => k_is); (case l22 => k_is); (case c22 => k_is); (case k22 => k_is); (case a23 => k_is); (case l23 => k_is); (case c23 => k_is); (case k23 => k_is); (case a24 => k_is); (case l24 => k_is); (case c24 => k_is); (case k24 => k_is); (case a25 => k_is); (case l25 => k_is); (case c25 => k_is); (case k25 => k_is); (case a26 => k_is); (case l26 => k_is); (case c26 => k_is); (case k26 => k_is); (case a27 => k_is); (case l27 => k_is); (case c27 => k_is); (case k27 => k_is); (case a28 => k_is); (case l28 => k_is); (case c28 => k_is); (case k28 => k_is); (case a29 => k_is); (case l29 => k_is); (case c29 => k_is); (case k29 => k_is); (case a30 => k_is); (case l30 => k_is); (case c30 => k_is); (case k30 => k_is); (case a31 => k_is); (case l31 => k_is); (case c31 => k_is); (case k31 => k_is); (case a32 => k_is); (case l32 => k_is); (case c32 => k_is); (case k32 => k_is); (case z_int => k_is); (case z_isinstance => k_is); (case z_bool => k_is); (case z_tuple => k_is); (case z_len => k_is); (case z_range => k_is); (case z_enumerate => k_is); (case z_list => k_is); (case z_sorted => k_is); (case z_max => k_is); (case z_set => k_is); (case v_MOST_COINS => k_is); (case v_MOST_COIN => k_is); (case v_MOST_GAPS => k_is); (case v_MOST_PAID => k_is); (case v_MOST_WAYS => k_is); (case xa_BadPurse => k_is); (case xa_Endless => k_is); (case xa_TooBig => k_is); (case xa_BadSum => k_is); (case xa_TooMany => k_is); (case xb_BadPurse => k_exc); (case xc_BadPurse => k_is); (case xd_BadPurse => k_is); (case xe_BadPurse => k_is); (case xb_Endless => k_exc); (case xc_Endless => k_is); (case xd_Endless => k_is); (case xe_Endless => k_is); (case xb_TooBig => k_exc); (case xc_TooBig => k_is); (case xd_TooBig => k_is); (case xe_TooBig => k_is); (case xb_BadSum => k_exc); (case xc_BadSum => k_is); (case xd_BadSum => k_is); (case xe_BadSum => k_is); (case xb_TooMany => k_exc); (case xc_TooMany => k_is); (case xd_TooMany => k_is); (case xe_TooMany => k_is)

