import PyProof.Rows.All
import PySem.PyData
import Wide.All
import OpenK.AllK
import Wide.FinOn
import HandS.ForMost
import HandS.Exc
import HandS.CallSlots
import HandS.WordsExc
import HandS.TupAny
import HandS.NoneIn
import HandS.More
import HandS.SetFor
import HandS.Wide
import HandS.TupMul
import HandS.Style
import HandS.Deep
import HandS.IsInst
import PyProof.Rows.SumAny
import KE.DataMinMax
import KE.GoesEnum
import HandS.ExcInit
import HandS.ExcField
import HandS.ExcIs
import HandS.TryMany
import KE.KExcIs
import PyProof.ReprRoads
import PySem.Challenge.RW_planwide_k43_working_days_by_counting
set_option linter.all false
set_option Elab.async false
/-! DLA: pure data, environments, outcomes, the mirrors' combinators. -/
namespace DL
open PySem
/-- an equation that is told, not reckoned again -/
theorem nr {α : Type} {a b : α} (h : a = b) : a = b := h

inductive D where
  | non | bl (b : Bool) | int (i : Int) | str (x : Str) | tup (xs : List D) | lst (xs : List D) | ref (n : Nat) | scr (ns : List Int) | dic (ks : List (Sum Int Str)) (vs : List D)
  deriving Inhabited

abbrev Store := List (List D)
abbrev szL : Nat := 16777216
/-- what a slot holds: shared data; a list of the frame's own; a list of the frame's own lists; an exception that is handled -/
inductive Sl where
  | sh (d : D) | o1 (xs : List D) | o2 (xss : List (List D)) | exn (c : String) (v : D)
abbrev Env := List (Option Sl)
/-- a result's handle: data, an own list by its slot, an inner own list -/
inductive RD where
  | d (x : D) | sl (i : Nat) | sl2 (i j : Nat) | exn (i : Nat)
inductive Out (α : Type) where
  | ok (a : α) (st : Store) | exc (c : String) (v : D) (st : Store) | bad
abbrev EF := Env → Store → Out RD
abbrev TF := Env → Store → Out Bool
abbrev AF := Env → Store → Out (List D)
/-- a fresh list -/
abbrev LF := Env → Store → Out (List D)
inductive OutS where
  | next (ρ : Env) (st : Store) | ret (d : D) (st : Store) | brk (ρ : Env) (st : Store) | cont (ρ : Env) (st : Store) | exc (c : String) (v : D) (ρ : Env) (st : Store) | bad
abbrev SF := Env → Store → OutS

@[inline] def Out.bind {α β : Type} (o : Out α) (f : α → Store → Out β) : Out β :=
  match o with
  | .ok a st => f a st
  | .exc c v st => .exc c v st
  | .bad => .bad
@[simp] theorem Out.bind_ok {α β : Type} (a : α) (st : Store) (f : α → Store → Out β) : (Out.ok a st).bind f = f a st := nr rfl
@[simp] theorem Out.bind_exc {α β : Type} (c : String) (v : D) (st : Store) (f : α → Store → Out β) : (Out.exc c v st : Out α).bind f = .exc c v st := nr rfl
@[simp] theorem Out.bind_bad {α β : Type} (f : α → Store → Out β) : (Out.bad : Out α).bind f = .bad := nr rfl
@[inline] def Out.bindS {α : Type} (o : Out α) (ρ : Env) (f : α → Store → OutS) : OutS :=
  match o with
  | .ok a st => f a st
  | .exc c v st => .exc c v ρ st
  | .bad => .bad
@[simp] theorem Out.bindS_ok {α : Type} (a : α) (st : Store) (ρ : Env) (f : α → Store → OutS) : (Out.ok a st).bindS ρ f = f a st := nr rfl
@[simp] theorem Out.bindS_exc {α : Type} (c : String) (v : D) (st : Store) (ρ : Env) (f : α → Store → OutS) : (Out.exc c v st : Out α).bindS ρ f = .exc c v ρ st := nr rfl
@[simp] theorem Out.bindS_bad {α : Type} (ρ : Env) (f : α → Store → OutS) : (Out.bad : Out α).bindS ρ f = .bad := nr rfl
/-- where nothing may be raised -/
def Out.nx {α : Type} (o : Out α) : Out α := match o with
  | .ok a st => .ok a st
  | _ => .bad
@[simp] theorem Out.nx_ok {α : Type} (a : α) (st : Store) : (Out.ok a st).nx = .ok a st := nr rfl
def Out.of {α : Type} (o : Option α) (st : Store) : Out α := match o with | some a => .ok a st | none => .bad
@[simp] theorem Out.of_some {α : Type} (a : α) (st : Store) : Out.of (some a) st = .ok a st := nr rfl
@[simp] theorem Out.of_none {α : Type} (st : Store) : Out.of (none : Option α) st = .bad := nr rfl

/-- the root of a datum, seen through the store -/
def root (st : Store) : D → Option D
  | .ref n => (st[n]?).map .lst
  | d => some d
@[simp] theorem root_non {st} : root st .non = some .non := nr rfl
@[simp] theorem root_bl {st b} : root st (.bl b) = some (.bl b) := nr rfl
@[simp] theorem root_int {st b} : root st (.int b) = some (.int b) := nr rfl
@[simp] theorem root_str {st b} : root st (.str b) = some (.str b) := nr rfl
@[simp] theorem root_tup {st b} : root st (.tup b) = some (.tup b) := nr rfl
@[simp] theorem root_lst {st b} : root st (.lst b) = some (.lst b) := nr rfl
@[simp] theorem root_scr {st b} : root st (.scr b) = some (.scr b) := nr rfl
@[simp] theorem root_dic {st k b} : root st (.dic k b) = some (.dic k b) := nr rfl
theorem root_ref {st n} : root st (.ref n) = (st[n]?).map .lst := rfl
/-- what a handle shows -/
def view (ρ : Env) (st : Store) : RD → Option D
  | .d x => root st x
  | .sl i => match ρ[i]? with | some (some (.o1 xs)) => some (.lst xs) | _ => none
  | .sl2 i j => match ρ[i]? with | some (some (.o2 xss)) => (xss[j]?).map .lst | _ => none
  | .exn _ => none
@[simp] theorem view_d {ρ st x} : view ρ st (.d x) = root st x := nr rfl
def dOf : RD → Option D
  | .d x => some x
  | _ => none
@[simp] theorem dOf_d {x} : dOf (.d x) = some x := nr rfl

/-! ### expressions -/
def eVar (i : Nat) : EF := fun ρ st => match ρ[i]? with
  | some (some (.sh d)) => .ok (.d d) st
  | some (some (.o1 _)) => .ok (.sl i) st
  | some (some (.o2 _)) => .ok (.sl i) st
  | some (some (.exn _ _)) => .ok (.exn i) st
  | _ => .bad
def eC (d : D) : EF := fun _ st => .ok (.d d) st
/-- the datum itself: what may be kept -/
def eTake (f : EF) (ρ : Env) (st : Store) : Out D := (f ρ st).bind fun r st1 => Out.of (dOf r) st1
def eOp (g : D → D → Option D) (a b : EF) : EF := fun ρ st => (a ρ st).bind fun x st1 => (b ρ st1).bind fun y st2 =>
  match view ρ st2 x, view ρ st2 y with
  | some dx, some dy => Out.of ((g dx dy).map .d) st2
  | _, _ => .bad
def eUn (g : D → Option D) (a : EF) : EF := fun ρ st => (a ρ st).bind fun x st1 => match view ρ st1 x with
  | some dx => Out.of ((g dx).map .d) st1
  | none => .bad
def aNil : AF := fun _ st => .ok [] st
def aCons (a : EF) (r : AF) : AF := fun ρ st => (a ρ st).bind fun x st1 => match dOf x with
  | some d => (r ρ st1).bind fun ds st2 => .ok (d :: ds) st2
  | none => .bad
/-- arguments that are only looked at: handles -/
abbrev HF := Env → Store → Out (List RD)
def hNil : HF := fun _ st => .ok [] st
def hCons (a : EF) (r : HF) : HF := fun ρ st => (a ρ st).bind fun x st1 => (r ρ st1).bind fun xs st2 => .ok (x :: xs) st2
def views (ρ : Env) (st : Store) : List RD → Option (List D)
  | [] => some []
  | r :: rs => match view ρ st r, views ρ st rs with
    | some d, some ds => some (d :: ds)
    | _, _ => none
@[simp] theorem views_nil {ρ st} : views ρ st [] = some [] := nr rfl
/-- a built-in function of looks -/
def eB (g : List D → Option D) (h : HF) : EF := fun ρ st => (h ρ st).bind fun rs st1 => match views ρ st1 rs with
  | some ds => Out.of ((g ds).map .d) st1
  | none => .bad
/-- a def's mirror -/
abbrev FM := List D → Store → Out D
def eCall (F : FM) (a : AF) : EF := fun ρ st => (a ρ st).bind fun ds st1 => (F ds st1).bind fun d st2 => .ok (.d d) st2
def eTup (a : AF) : EF := fun ρ st => (a ρ st).bind fun ds st1 => if ds.length ≤ szL then .ok (.d (.tup ds)) st1 else .bad
def lDisp (a : AF) : LF := fun ρ st => (a ρ st).bind fun ds st1 => if ds.length ≤ szL then .ok ds st1 else .bad
/-- a fresh list, shared from now on; put into the store -/
def eLst (l : LF) : EF := fun ρ st => (l ρ st).bind fun ds st1 => .ok (.d (.lst ds)) st1
def eBox (l : LF) : EF := fun ρ st => (l ρ st).bind fun ds st1 => .ok (.d (.ref st1.length)) (st1 ++ [ds])
def eIf (c : TF) (a b : EF) : EF := fun ρ st => (c ρ st).bind fun k st1 => if k then a ρ st1 else b ρ st1
def truD : D → Option Bool
  | .non => some false
  | .bl b => some b
  | .int i => some (i != 0)
  | .str x => if x.cps.size ≤ szL then some (x.cps.size != 0) else none
  | .tup xs => some (!xs.isEmpty)
  | .lst xs => some (!xs.isEmpty)
  | .ref _ => none
  | .dic _ _ => none
  | .scr xs => some (!xs.isEmpty)
def tTru (a : EF) : TF := fun ρ st => (a ρ st).bind fun x st1 => match view ρ st1 x with
  | some d => Out.of (truD d) st1
  | none => .bad
def tAnd (a b : TF) : TF := fun ρ st => (a ρ st).bind fun k st1 => if k then b ρ st1 else .ok false st1
def tOr (a b : TF) : TF := fun ρ st => (a ρ st).bind fun k st1 => if k then .ok true st1 else b ρ st1
def tNot (a : TF) : TF := fun ρ st => (a ρ st).bind fun k st1 => .ok (!k) st1
/-- and, or, not by values: the operands are truth values -/
def eAnd (a b : EF) : EF := fun ρ st => (a ρ st).bind fun x st1 => match x with
  | .d (.bl true) => b ρ st1
  | .d (.bl false) => .ok (.d (.bl false)) st1
  | _ => .bad
def eOr (a b : EF) : EF := fun ρ st => (a ρ st).bind fun x st1 => match x with
  | .d (.bl true) => .ok (.d (.bl true)) st1
  | .d (.bl false) => b ρ st1
  | _ => .bad
def eNot (a : EF) : EF := fun ρ st => (a ρ st).bind fun x st1 => match x with
  | .d (.bl k) => .ok (.d (.bl (!k))) st1
  | _ => .bad

/-! ### statements -/
def sNil : SF := fun ρ st => .next ρ st
def sSeq (a b : SF) : SF := fun ρ st => match a ρ st with
  | .next ρ1 st1 => b ρ1 st1
  | o => o
def sIf (c : TF) (a b : SF) : SF := fun ρ st => (c ρ st).bindS ρ fun k st1 => if k then a ρ st1 else b ρ st1
def sSet (i : Nat) (a : EF) : SF := fun ρ st => (eTake a ρ st).bindS ρ fun d st1 => .next (ρ.set i (some (.sh d))) st1
def sOwn (i : Nat) (l : LF) : SF := fun ρ st => (l ρ st).bindS ρ fun ds st1 => .next (ρ.set i (some (.o1 ds))) st1
def sRet (a : EF) : SF := fun ρ st => (eTake a ρ st).bindS ρ fun d st1 => .ret d st1
def sRetN : SF := fun _ st => .ret .non st
def sExpr (a : EF) : SF := fun ρ st => (a ρ st).bindS ρ fun _ st1 => .next ρ st1
def sBrk : SF := fun ρ st => .brk ρ st
def sCont : SF := fun ρ st => .cont ρ st
def sBad : SF := fun _ _ => .bad
/-- the lists of a slot are shared from now on -/
def frzS : Sl → Sl
  | .o1 xs => .sh (.lst xs)
  | .o2 xss => .sh (.lst (xss.map .lst))
  | s => s
def sFrz (i : Nat) : SF := fun ρ st => match ρ[i]? with
  | some (some s) => .next (ρ.set i (some (frzS s))) st
  | _ => .next ρ st
end DL
namespace DL
open PySem
/-! ### places -/
def ixD (n : Nat) (i : Int) : Option Nat := if 0 ≤ i then (if i < n then some i.toNat else none) else if -(n : Int) ≤ i then some (i + n).toNat else none
def atD {α : Type} (xs : List α) (i : Int) : Option α := (ixD xs.length i).bind fun j => xs[j]?
def sIxD (n d : Nat) : Option Int → Nat
  | none => d
  | some z => if z < 0 then (z + n).toNat else min z.toNat n
def cutD {α : Type} (xs : List α) (lo hi : Option Int) : List α := (xs.drop (sIxD xs.length 0 lo)).take (sIxD xs.length xs.length hi - sIxD xs.length 0 lo)
def itemD : D → D → Option D
  | .lst xs, .int i => atD xs i
  | .tup xs, .int i => atD xs i
  | .scr xs, .int i => (atD xs i).map .int
  | .str x, .int i => if x.cps.size ≤ szL then (atD x.cps.toList i).map (fun c => .str ⟨#[c]⟩) else none
  | _, _ => none
def eIx (a b : EF) : EF := fun ρ st => (a ρ st).bind fun x st1 => (b ρ st1).bind fun y st2 =>
  match view ρ st2 x, view ρ st2 y with
  | some dx, some dy => Out.of ((itemD dx dy).map .d) st2
  | _, _ => .bad
/-- an inner list of slot i -/
def eIx2 (i : Nat) (b : EF) : EF := fun ρ st => match ρ[i]? with
  | some (some (.o2 xss)) => (b ρ st).bind fun y st1 => (match view ρ st1 y with
    | some (.int k) => (match ixD xss.length k with | some j => .ok (.sl2 i j) st1 | none => .bad)
    | _ => .bad)
  | _ => .bad
/-- a slice's part -/
abbrev OF := Env → Store → Out (Option Int)
def oNone : OF := fun _ st => .ok none st
def oSome (a : EF) : OF := fun ρ st => (a ρ st).bind fun x st1 => match view ρ st1 x with
  | some (.int i) => .ok (some i) st1
  | _ => .bad
def sliceD (d : D) (lo hi : Option Int) : Option D := match d with
  | .lst xs => some (.lst (cutD xs lo hi))
  | .tup xs => some (.tup (cutD xs lo hi))
  | .scr xs => some (.lst ((cutD xs lo hi).map .int))
  | .str z => if z.cps.size ≤ szL then some (.str ⟨(cutD z.cps.toList lo hi).toArray⟩) else none
  | _ => none
def eSl (a : EF) (l h : OF) : EF := fun ρ st => (a ρ st).bind fun x st1 => (l ρ st1).bind fun lo st2 => (h ρ st2).bind fun hi st3 =>
  match view ρ st3 x with
  | some d => Out.of ((sliceD d lo hi).map .d) st3
  | none => .bad
def eChain (g g' : D → D → Option D) (a b c : EF) : EF := fun ρ st => (a ρ st).bind fun x st1 => (b ρ st1).bind fun y st2 =>
  match view ρ st2 x, view ρ st2 y with
  | some dx, some dy => (match g dx dy with
    | some (.bl true) => (c ρ st2).bind fun z st3 => (match view ρ st3 y, view ρ st3 z with
      | some dy', some dz => Out.of ((g' dy' dz).map .d) st3
      | _, _ => .bad)
    | some (.bl false) => .ok (.d (.bl false)) st2
    | _ => .bad)
  | _, _ => .bad
def tVal (a : EF) : TF := fun ρ st => (a ρ st).bind fun x st1 => match x with
  | .d (.bl k) => .ok k st1
  | _ => .bad
def pmut {α : Type} (pm : List Nat) (l : List α) : List α := pm.filterMap fun i => l[i]?
def eCallK (F : FM) (pm : List Nat) (a k : AF) : EF := fun ρ st => (a ρ st).bind fun ds st1 => (k ρ st1).bind fun es st2 => (F (pmut pm (ds ++ es)) st2).bind fun d st3 => .ok (.d d) st3
/-! ### targets, loops -/
inductive Pt where
  | n (i : Nat) | t (ps : List Pt)
mutual
/-- what a target stores: slots and data -/
def pmat : Pt → D → Option (List (Nat × D))
  | .n i, d => some [(i, d)]
  | .t ps, .tup ds => pmats ps ds
  | .t ps, .lst ds => pmats ps ds
  | .t _, _ => none
def pmats : List Pt → List D → Option (List (Nat × D))
  | [], [] => some []
  | p :: ps, d :: ds => match pmat p d, pmats ps ds with
    | some a, some b => some (a ++ b)
    | _, _ => none
  | _, _ => none
end
def setMany (ρ : Env) : List (Nat × D) → Env
  | [] => ρ
  | (i, d) :: r => setMany (ρ.set i (some (.sh d))) r
def killE (ρ : Env) : List Nat → Env
  | [] => ρ
  | i :: r => killE (ρ.set i none) r
def sPat (p : Pt) (a : EF) : SF := fun ρ st => (eTake a ρ st).bindS ρ fun d st1 => match pmat p d with
  | some as => .next (setMany ρ as) st1
  | none => .bad
/-- x, y = a, b: stored behind all values -/
def sPar (is : List Nat) (a : AF) : SF := fun ρ st => (a ρ st).bindS ρ fun ds st1 => .next (setMany ρ (is.zip ds)) st1
def forS (p : Pt) (body : SF) (kill : List Nat) : List D → Env → Store → OutS
  | [], ρ, st => .next ρ st
  | d :: ds, ρ, st => match pmat p d with
    | some as => (match body (setMany ρ as) st with
      | .next ρ2 st2 => forS p body kill ds (killE ρ2 kill) st2
      | .cont ρ2 st2 => forS p body kill ds (killE ρ2 kill) st2
      | .brk ρ2 st2 => .next (killE ρ2 kill) st2
      | o => o)
    | none => .bad
/-- what a for walks -/
abbrev IF := Env → Store → Out (List D)
def sFor (it : IF) (p : Pt) (body : SF) (kill : List Nat) : SF := fun ρ st => (it ρ st).bindS ρ fun ds st1 => forS p body kill ds (killE ρ kill) st1
def whileS (c : TF) (body : SF) (kill : List Nat) : Nat → Env → Store → OutS
  | 0, _, _ => .bad
  | n + 1, ρ, st => (c ρ st).bindS ρ fun k st1 => if k then
      (match body ρ st1 with
      | .next ρ2 st2 => whileS c body kill n (killE ρ2 kill) st2
      | .cont ρ2 st2 => whileS c body kill n (killE ρ2 kill) st2
      | .brk ρ2 st2 => .next (killE ρ2 kill) st2
      | o => o)
    else .next ρ st1
abbrev fuelW : Nat := 18446744073709551616
def sWhile (c : TF) (body : SF) (kill : List Nat) : SF := fun ρ st => whileS c body kill fuelW (killE ρ kill) st
/-- a comprehension: the block's own slots are empty ahead of each turn -/
def compL (p : Pt) (t : TF) (e : EF) (ρ : Env) : List D → Store → Out (List D)
  | [], st => .ok [] st
  | d :: ds, st => match pmat p d with
    | some as => (t (setMany ρ as) st).nx.bind fun k st1 => if k then
        (eTake e (setMany ρ as) st1).nx.bind fun x st2 => (compL p t e ρ ds st2).bind fun xs st3 => .ok (x :: xs) st3
      else compL p t e ρ ds st1
    | none => .bad
def tYesF : TF := fun _ st => .ok true st
def lComp (it : IF) (p : Pt) (t : TF) (e : EF) (own : List Nat) : LF := fun ρ st => (it ρ st).bind fun ds st1 =>
  if ds.length ≤ szL then compL p t e (killE ρ own) ds st1 else .bad
/-! ### lists changed in place -/
abbrev MutF := List D → List D → Option (List D × D)
abbrev XF := Env → Store → Out (D × Env)
def xMut (g : MutF) (i : Nat) (a : AF) : XF := fun ρ st => match ρ[i]? with
  | some (some (.o1 _)) => (a ρ st).bind fun ds st1 => (match ρ[i]? with
    | some (some (.o1 xs)) => (match g xs ds with | some (ys, d) => .ok (d, ρ.set i (some (.o1 ys))) st1 | none => .bad)
    | _ => .bad)
  | some (some (.sh (.ref n))) => (a ρ st).bind fun ds st1 => (match st1[n]? with
    | some xs => (match g xs ds with | some (ys, d) => .ok (d, ρ) (st1.set n ys) | none => .bad)
    | none => .bad)
  | _ => .bad
def appD : MutF := fun xs ds => match ds with | [d] => if xs.length < szL then some (xs ++ [d], .non) else none | _ => none
def popD : MutF := fun xs ds => match ds with | [] => xs[xs.length - 1]?.map fun d => (xs.dropLast, d) | _ => none
def popAtD : MutF := fun xs ds => match ds with
  | [.int i] => (ixD xs.length i).bind fun k => xs[k]?.map fun d => (xs.eraseIdx k, d)
  | _ => none
def insD : MutF := fun xs ds => match ds with
  | [.int i, d] => if xs.length < szL ∧ 0 ≤ i ∧ i < 9223372036854775808 then some (xs.take i.toNat ++ d :: xs.drop i.toNat, .non) else none
  | _ => none
def revD : MutF := fun xs ds => match ds with | [] => some (xs.reverse, .non) | _ => none
def extD : MutF := fun xs ds => match ds with | [.lst ys] => if xs.length + ys.length ≤ szL then some (xs ++ ys, .non) else none | _ => none
def sX (x : XF) : SF := fun ρ st => (x ρ st).bindS ρ fun r st1 => .next r.2 st1
def sSetX (t : Nat) (x : XF) : SF := fun ρ st => (x ρ st).bindS ρ fun r st1 => .next (r.2.set t (some (.sh r.1))) st1
def sRetX (x : XF) : SF := fun ρ st => (x ρ st).bindS ρ fun r st1 => .ret r.1 st1
/-- x[k] = e -/
def sSetIx (i : Nat) (k v : EF) : SF := fun ρ st => (eTake v ρ st).bindS ρ fun d st1 => match ρ[i]? with
  | some (some (.o1 xs)) => (k ρ st1).bindS ρ fun r st2 => (match view ρ st2 r with
    | some (.int z) => (match ixD xs.length z with | some j => .next (ρ.set i (some (.o1 (xs.set j d)))) st2 | none => .bad)
    | _ => .bad)
  | some (some (.sh (.ref n))) => (k ρ st1).bindS ρ fun r st2 => (match view ρ st2 r, st2[n]? with
    | some (.int z), some xs => (match ixD xs.length z with | some j => .next ρ (st2.set n (xs.set j d)) | none => .bad)
    | _, _ => .bad)
  | _ => .bad
/-- x op= e of ints -/
def sAug (i : Nat) (g : D → D → Option D) (a : EF) : SF := fun ρ st => match ρ[i]? with
  | some (some (.sh d)) => (a ρ st).bindS ρ fun r st1 => (match view ρ st1 r with
    | some y => (match g d y with | some z => .next (ρ.set i (some (.sh z))) st1 | none => .bad)
    | none => .bad)
  | _ => .bad
def sRaise (c : String) (a : EF) : SF := fun ρ st => (eTake a ρ st).bindS ρ fun d st1 => .exc c d ρ st1
def sRaise0 (c : String) : SF := fun ρ st => .exc c .non ρ st
/-- try: body except c as x: suite ..; the clauses by the class's name -/
def pickC (sub : String → String → Bool) (c : String) : List (String × Nat × SF) → Option (Nat × SF)
  | [] => none
  | (k, i, s) :: r => if sub c k then some (i, s) else pickC sub c r
/-- no exception is held any more -/
def noX : Env → Env := List.map fun s => match s with | some (.exn _ _) => none | s => s
def unS (i : Nat) : OutS → OutS
  | .next ρ st => .next (noX (ρ.set i none)) st
  | .brk ρ st => .brk (noX (ρ.set i none)) st
  | .cont ρ st => .cont (noX (ρ.set i none)) st
  | .exc _ _ _ _ => .bad
  | o => o
def sTry (sub : String → String → Bool) (body : SF) (cl : List (String × Nat × SF)) : SF := fun ρ st => match body ρ st with
  | .exc c v ρ1 st1 => (match pickC sub c cl with
    | some (i, s) => unS i (s (ρ1.set i (some (.exn c v))) st1)
    | none => .exc c v ρ1 st1)
  | o => o
/-- a def: its body at the parameters -/
def runD (n : Nat) (body : SF) : FM := fun ds st => match body (ds.map (fun d => some (.sh d)) ++ List.replicate (n - ds.length) none) st with
  | .next _ st1 => .ok .non st1
  | .ret d st1 => .ok d st1
  | .exc c v _ st1 => .exc c v st1
  | _ => .bad
/-! ### what is walked -/
/-- the items of a list or of a tuple that is shared -/
def iData (a : EF) : IF := fun ρ st => (a ρ st).bind fun x st1 => match x with
  | .d (.lst ds) => .ok ds st1
  | .d (.tup ds) => .ok ds st1
  | _ => .bad
def iList (a : EF) : IF := fun ρ st => (a ρ st).bind fun x st1 => match x with
  | .d (.lst ds) => .ok ds st1
  | _ => .bad
def iTuple (a : EF) : IF := fun ρ st => (a ρ st).bind fun x st1 => match x with
  | .d (.tup ds) => .ok ds st1
  | _ => .bad
def rngD (lo hi : Int) : List D := (List.range (hi - lo).toNat).map fun (i : Nat) => D.int (lo + (i : Int))
abbrev b62 : Int := 4611686018427387904
def iRng (a : AF) : IF := fun ρ st => (a ρ st).bind fun ds st1 => match ds with
  | [.int j] => if -b62 ≤ j ∧ j < b62 then .ok (rngD 0 j) st1 else .bad
  | [.int i, .int j] => if (-b62 ≤ i ∧ i < b62) ∧ -b62 ≤ j ∧ j < b62 then .ok (rngD i j) st1 else .bad
  | _ => .bad
/-! ### operations on data -/
def lenOk (n : Nat) (d : D) : Option D := if n ≤ szL then some d else none
def addD : D → D → Option D
  | .int i, .int j => some (.int (i + j))
  | .lst xs, .lst ys => lenOk (xs.length + ys.length) (.lst (xs ++ ys))
  | .tup xs, .tup ys => lenOk (xs.length + ys.length) (.tup (xs ++ ys))
  | .str x, .str y => lenOk (x.cps.size + y.cps.size) (.str (x ++ y))
  | _, _ => none
def subD : D → D → Option D
  | .int i, .int j => some (.int (i - j))
  | _, _ => none
def mulD : D → D → Option D
  | .int i, .int j => if i.natAbs.log2 + j.natAbs.log2 < 1000000 then some (.int (i * j)) else none
  | .lst xs, .int k => if xs.length * k.toNat ≤ szL ∧ -1000000 ≤ k ∧ k ≤ 1000000 then some (.lst (List.replicate k.toNat xs).flatten) else none
  | .tup xs, .int k => if xs.length ≤ 1000 ∧ 0 ≤ k ∧ k ≤ 1000 ∧ xs ≠ [] then some (.tup (List.replicate k.toNat xs).flatten) else none
  | _, _ => none
def fdivD : D → D → Option D
  | .int i, .int j => if 0 < j ∧ j.natAbs.log2 < 9000 then some (.int (i / j)) else none
  | _, _ => none
def modD : D → D → Option D
  | .int i, .int j => if 0 < j then some (.int (i % j)) else none
  | _, _ => none
def powD : D → D → Option D
  | .int i, .int j => if 0 ≤ j ∧ j ≤ 1000 ∧ i.natAbs < 2 ^ 10000 then some (.int (i ^ j.toNat)) else none
  | _, _ => none
def negD : D → Option D
  | .int i => some (.int (-i))
  | _ => none
def ltD : D → D → Option D
  | .int i, .int j => some (.bl (decide (i < j)))
  | _, _ => none
def leD : D → D → Option D
  | .int i, .int j => some (.bl (decide (i ≤ j)))
  | _, _ => none
def gtD : D → D → Option D
  | .int i, .int j => some (.bl (decide (j < i)))
  | _, _ => none
def geD : D → D → Option D
  | .int i, .int j => some (.bl (decide (j ≤ i)))
  | _, _ => none
mutual
/-- == of data: a truth value is a number -/
def eqvD : D → D → Bool
  | .non, .non => true
  | .bl a, .bl b => a == b
  | .bl a, .int j => (if a then 1 else 0) == j
  | .int i, .bl b => i == (if b then 1 else 0)
  | .int i, .int j => i == j
  | .str x, .str y => x == y
  | .lst xs, .lst ys => eqvDs xs ys
  | .tup xs, .tup ys => eqvDs xs ys
  | _, _ => false
def eqvDs : List D → List D → Bool
  | [], [] => true
  | x :: xs, y :: ys => eqvD x y && eqvDs xs ys
  | _, _ => false
end
mutual
/-- plain data: no list of the store within, texts of proper signs -/
def okD : D → Bool
  | .str x => x.cps.all (· < 0x110000)
  | .lst xs => okDs xs
  | .tup xs => okDs xs
  | .ref _ => false
  | .scr _ => false
  | .dic _ _ => false
  | _ => true
def okDs : List D → Bool
  | [] => true
  | x :: xs => okD x && okDs xs
end
mutual
def depD : D → Nat
  | .lst xs => depDs xs + 1
  | .tup xs => depDs xs + 1
  | _ => 0
def depDs : List D → Nat
  | [] => 0
  | x :: xs => max (depD x) (depDs xs)
end
def fineD (d : D) : Bool := okD d && decide (depD d ≤ 60)
def eqD : D → D → Option D
  | .str x, .str y => some (.bl (decide (x = y)))
  | x, y => if fineD x && fineD y then some (.bl (eqvD x y)) else none
def neD : D → D → Option D
  | .str x, .str y => some (.bl (!decide (x = y)))
  | x, y => if fineD x && fineD y then some (.bl (!eqvD x y)) else none
def flatD : D → Bool
  | .non => true | .bl _ => true | .int _ => true | .str x => true | _ => false
/-- x in a list or a tuple -/
def inD : D → D → Option D
  | x, .lst ys => if fineD x && fineD (.lst ys) then some (.bl (ys.any fun z => eqvD z x)) else none
  | x, .tup ys => if flatD x && ys.all flatD then some (.bl (ys.any fun z => eqvD z x)) else none
  | _, _ => none
def notInD : D → D → Option D
  | x, .lst ys => if fineD x && fineD (.lst ys) then some (.bl (!ys.any fun z => eqvD z x)) else none
  | x, .tup ys => if flatD x && ys.all flatD then some (.bl (!ys.any fun z => eqvD z x)) else none
  | _, _ => none
def isNonD : D → D → Option D
  | x, .non => some (.bl (match x with | .non => true | _ => false))
  | .bl a, .bl b => some (.bl (a == b))
  | _, _ => none
def isNotD : D → D → Option D
  | x, .non => some (.bl (match x with | .non => false | _ => true))
  | .bl a, .bl b => some (.bl (!(a == b)))
  | _, _ => none
/-! built-in functions -/
def lenB : List D → Option D
  | [.lst xs] => some (.int xs.length)
  | [.tup xs] => some (.int xs.length)
  | [.scr xs] => some (.int xs.length)
  | [.str x] => if x.cps.size ≤ szL then some (.int x.cps.size) else none
  | _ => none
def intsD : List D → Option (List Int)
  | [] => some []
  | .int i :: r => (intsD r).map (i :: ·)
  | _ :: _ => none
def sumB : List D → Option D
  | [.lst xs] => (intsD xs).map fun ns => .int ns.sum
  | [.tup xs] => (intsD xs).map fun ns => .int ns.sum
  | _ => none
def maxI : List Int → Option Int
  | [] => none
  | x :: xs => some (xs.foldl max x)
def minI : List Int → Option Int
  | [] => none
  | x :: xs => some (xs.foldl min x)
def maxB : List D → Option D
  | [.lst xs] => ((intsD xs).bind maxI).map .int
  | [.tup xs] => ((intsD xs).bind maxI).map .int
  | [.int i, .int j] => some (.int (if j > i then j else i))
  | _ => none
def minB : List D → Option D
  | [.lst xs] => ((intsD xs).bind minI).map .int
  | [.tup xs] => ((intsD xs).bind minI).map .int
  | [.int i, .int j] => some (.int (if j < i then j else i))
  | _ => none
def absB : List D → Option D
  | [.int i] => some (.int (if i < 0 then -i else i))
  | _ => none
def intB : List D → Option D
  | [.int i] => some (.int i)
  | [.bl k] => some (.int (if k then 1 else 0))
  | _ => none
def bools : List D → Option (List Bool)
  | [] => some []
  | .bl b :: r => (bools r).map (b :: ·)
  | _ :: _ => none
def allB : List D → Option D
  | [.lst xs] => (bools xs).map fun bs => .bl (bs.all id)
  | _ => none
def anyB : List D → Option D
  | [.lst xs] => (bools xs).map fun bs => .bl (bs.any id)
  | _ => none
def listB : List D → Option (List D)
  | [.lst xs] => some xs
  | [.tup xs] => some xs
  | _ => none
def tupleB : List D → Option D
  | [.lst xs] => some (.tup xs)
  | [.tup xs] => some (.tup xs)
  | _ => none
/-- list(..) of looks: a fresh list -/
def lCall (g : List D → Option (List D)) (h : HF) : LF := fun ρ st => (h ρ st).bind fun rs st1 => match views ρ st1 rs with
  | some ds => Out.of (g ds) st1
  | none => .bad
/-- isinstance by the built-in class's name -/
def isD (T : String) : D → Option Bool
  | .non => some (T == "NoneType")
  | .bl _ => some (T == "bool" || T == "int")
  | .int _ => some (T == "int")
  | .str _ => some (T == "str")
  | .tup _ => some (T == "tuple")
  | .lst _ => some (T == "list")
  | .scr _ => some (T == "list")
  | .ref _ => none
  | .dic _ _ => some (T == "dict")
def eIs (Ts : List String) (a : EF) : EF := fun ρ st => (a ρ st).bind fun x st1 => match view ρ st1 x with
  | some d => (match Ts.mapM fun T => isD T d with | some bs => .ok (.d (.bl (bs.any id))) st1 | none => .bad)
  | none => .bad
/-- enumerate(x) -/
def enumD (ds : List D) : List D := ds.zipIdx.map fun p => .tup [.int (p.2 : Nat), p.1]
def iEnumF (a : AF) : IF := fun ρ st => (a ρ st).bind fun ds st1 => match ds with
  | [.lst xs] => .ok (enumD xs) st1
  | [.tup xs] => .ok (enumD xs) st1
  | _ => .bad
def iEnumL (a : AF) : IF := fun ρ st => (a ρ st).bind fun ds st1 => match ds with
  | [.lst xs] => .ok (enumD xs) st1
  | _ => .bad
def iEnumT (a : AF) : IF := fun ρ st => (a ρ st).bind fun ds st1 => match ds with
  | [.tup xs] => .ok (enumD xs) st1
  | _ => .bad
end DL

set_option maxRecDepth 100000
set_option maxHeartbeats 4000000
/-! DLB: how data lies in the heap; the judgements. -/
namespace DL
open PySem L2 PySem.Spec PyProof.Rows

/-- frozen cells, and where the store's lists lie -/
structure Wd where
  Z : Addr → Prop
  φ : List Addr

def KTup (K : PySem.W.Frag) (a : Addr) (xs : List V) : Prop :=
  ∃ (o : PySem.Obj) (its : Array Value) (n : Nat), K.lookup a = some o ∧ o.cls = .type "tuple" ∧ o.data = .seq its n ∧ its.size ≤ sizeLine ∧ Vals xs its.toList
def KLst (K : PySem.W.Frag) (a : Addr) (xs : List V) : Prop :=
  ∃ (o : PySem.Obj) (its : Array Value) (n : Nat), K.lookup a = some o ∧ o.cls = .type "list" ∧ o.dict = none ∧ o.data = .seq its n ∧ its.size ≤ sizeLine ∧ Vals xs its.toList
def FzT (K : PySem.W.Frag) (W : Wd) (H : Hp) (a : Addr) (vs : List V) : Prop := (W.Z a ∧ H a = some (.tup vs)) ∨ KTup K a vs
def FzL (W : Wd) (H : Hp) (a : Addr) (vs : List V) : Prop := W.Z a ∧ H a = some (.lst vs)
/-- the script -/
def FzS (K : PySem.W.Frag) (W : Wd) (H : Hp) (a : Addr) (vs : List V) : Prop := (W.Z a ∧ ∃ o, H a = some (.frz o (.lst vs))) ∨ KLst K a vs
theorem FzT.sq {K : PySem.W.Frag} {W : Wd} {H : Hp} {a : Addr} {vs : List V} (h : FzT K W H a vs) : SqT K H a vs := h.elim (fun h => .of h.2) .inr
theorem FzL.sq {K : PySem.W.Frag} {W : Wd} {H : Hp} {a : Addr} {vs : List V} (h : FzL W H a vs) : SqL K H a vs := .of h.2
theorem FzS.sq {K : PySem.W.Frag} {W : Wd} {H : Hp} {a : Addr} {vs : List V} (h : FzS K W H a vs) : SqL K H a vs := h.elim (fun h => .inl (.inr h.2)) .inr

mutual
def Dat (K : PySem.W.Frag) (W : Wd) (H : Hp) : D → V → Prop
  | .non, v => v = .non
  | .bl b, v => v = .bl b
  | .int i, v => v = .int i
  | .str x, v => v = .str x
  | .tup ds, v => ∃ a vs, v = .ref a ∧ FzT K W H a vs ∧ Dats K W H ds vs
  | .lst ds, v => ∃ a vs, v = .ref a ∧ FzL W H a vs ∧ Dats K W H ds vs
  | .ref n, v => ∃ a, v = .ref a ∧ W.φ[n]? = some a
  | .dic ks ds, v => ∃ (a : Addr) (kvs : List (Key × V)), v = .ref a ∧ W.Z a ∧ H a = some (.dK kvs) ∧ kvs.map (·.1) = ks ∧ Dats K W H ds (kvs.map (·.2))
  | .scr ns, v => ∃ a, v = .ref a ∧ FzS K W H a (ns.map V.int)
def Dats (K : PySem.W.Frag) (W : Wd) (H : Hp) : List D → List V → Prop
  | [], vs => vs = []
  | d :: ds, vs => ∃ v r, vs = v :: r ∧ Dat K W H d v ∧ Dats K W H ds r
end

/-- what stays for ever -/
structure Per (W : Wd) (H : Hp) (W' : Wd) (H' : Hp) : Prop where
  z : ∀ a, W.Z a → W'.Z a
  h : ∀ a, W.Z a → H' a = H a
  φ : ∃ more, W'.φ = W.φ ++ more
/-- .. and other frames' cells are let alone -/
structure Step (W : Wd) (H : Hp) (W' : Wd) (H' : Hp) : Prop extends Per W H W' H' where
  keep : ∀ a, H a ≠ none → ¬ W.Z a → a ∉ W.φ → H' a = H a ∧ ¬ W'.Z a ∧ a ∉ W'.φ
theorem Per.refl (W : Wd) (H : Hp) : Per W H W H := ⟨fun _ h => h, fun _ _ => rfl, [], by simp⟩
theorem Step.refl (W : Wd) (H : Hp) : Step W H W H := ⟨Per.refl W H, fun _ _ h1 h2 => ⟨rfl, h1, h2⟩⟩
theorem Per.trans {W W1 W2 : Wd} {H H1 H2 : Hp} (a : Per W H W1 H1) (b : Per W1 H1 W2 H2) : Per W H W2 H2 := by
  refine ⟨fun c h => b.z c (a.z c h), fun c h => (b.h c (a.z c h)).trans (a.h c h), ?_⟩
  obtain ⟨m, e⟩ := a.φ
  obtain ⟨m2, e2⟩ := b.φ
  exact ⟨m ++ m2, by rw [e2, e, List.append_assoc]⟩
theorem Step.trans {W W1 W2 : Wd} {H H1 H2 : Hp} (a : Step W H W1 H1) (b : Step W1 H1 W2 H2) : Step W H W2 H2 := by
  refine ⟨a.toPer.trans b.toPer, fun c h1 h2 h3 => ?_⟩
  obtain ⟨e1, e2, e3⟩ := a.keep c h1 h2 h3
  obtain ⟨f1, f2, f3⟩ := b.keep c (by rw [e1]; exact h1) e2 e3
  exact ⟨f1.trans e1, f2, f3⟩
theorem Per.get {W W' : Wd} {H H' : Hp} (p : Per W H W' H') {n : Nat} {a : Addr} (h : W.φ[n]? = some a) : W'.φ[n]? = some a := by
  obtain ⟨m, e⟩ := p.φ
  rw [e, List.getElem?_append_left (List.getElem?_eq_some_iff.mp h).1]
  exact h
theorem FzT.per {K : PySem.W.Frag} {W W' : Wd} {H H' : Hp} (p : Per W H W' H') {a : Addr} {vs : List V} (h : FzT K W H a vs) : FzT K W' H' a vs :=
  h.elim (fun h => .inl ⟨p.z a h.1, (p.h a h.1).trans h.2⟩) .inr
theorem FzL.per {W W' : Wd} {H H' : Hp} (p : Per W H W' H') {a : Addr} {vs : List V} (h : FzL W H a vs) : FzL W' H' a vs := ⟨p.z a h.1, (p.h a h.1).trans h.2⟩
theorem FzS.per {K : PySem.W.Frag} {W W' : Wd} {H H' : Hp} (p : Per W H W' H') {a : Addr} {vs : List V} (h : FzS K W H a vs) : FzS K W' H' a vs :=
  h.elim (fun ⟨z, o, h⟩ => .inl ⟨p.z a z, o, (p.h a z).trans h⟩) .inr
mutual
theorem Dat.per {K : PySem.W.Frag} {W W' : Wd} {H H' : Hp} (p : Per W H W' H') : ∀ (d : D) (v : V), Dat K W H d v → Dat K W' H' d v
  | .non, _, h => h
  | .bl _, _, h => h
  | .int _, _, h => h
  | .str _, _, h => h
  | .tup ds, v, h => by
    obtain ⟨a, vs, e, f, g⟩ := h
    exact ⟨a, vs, e, f.per p, Dats.per p ds vs g⟩
  | .lst ds, v, h => by
    obtain ⟨a, vs, e, f, g⟩ := h
    exact ⟨a, vs, e, f.per p, Dats.per p ds vs g⟩
  | .ref n, v, h => by
    obtain ⟨a, e, f⟩ := h
    exact ⟨a, e, p.get f⟩
  | .dic ks ds, v, h => by
    obtain ⟨a, kvs, e, z, f, g, q⟩ := h
    exact ⟨a, kvs, e, p.z a z, (p.h a z).trans f, g, Dats.per p ds _ q⟩
  | .scr ns, v, h => by
    obtain ⟨a, e, f⟩ := h
    exact ⟨a, e, f.per p⟩
theorem Dats.per {K : PySem.W.Frag} {W W' : Wd} {H H' : Hp} (p : Per W H W' H') : ∀ (ds : List D) (vs : List V), Dats K W H ds vs → Dats K W' H' ds vs
  | [], _, h => h
  | d :: ds, _, h => by
    obtain ⟨v, r, e, f, g⟩ := h
    exact ⟨v, r, e, Dat.per p d v f, Dats.per p ds r g⟩
end
section
variable {K : PySem.W.Frag} {W : Wd} {H : Hp}
theorem Dats.len : ∀ {ds : List D} {vs : List V}, Dats K W H ds vs → ds.length = vs.length
  | [], _, h => by rw [show _ = _ from h]; rfl
  | d :: ds, _, h => by
    obtain ⟨v, r, e, _, g⟩ := h
    rw [e, List.length_cons, List.length_cons, Dats.len g]
theorem Dats.cons {d : D} {ds : List D} {v : V} {vs : List V} (h : Dat K W H d v) (t : Dats K W H ds vs) : Dats K W H (d :: ds) (v :: vs) := ⟨v, vs, rfl, h, t⟩
theorem Dats.append : ∀ {ds es : List D} {vs us : List V}, Dats K W H ds vs → Dats K W H es us → Dats K W H (ds ++ es) (vs ++ us)
  | [], _, _, _, h, t => by rw [show _ = _ from h]; exact t
  | d :: ds, _, _, _, h, t => by
    obtain ⟨v, r, e, f, g⟩ := h
    rw [e]
    exact Dats.cons f (Dats.append g t)
theorem Dats.get : ∀ {ds : List D} {vs : List V} {i : Nat} {d : D}, Dats K W H ds vs → ds[i]? = some d → ∃ v, vs[i]? = some v ∧ Dat K W H d v
  | [], _, _, _, _, e => by simp at e
  | d :: ds, _, 0, _, h, e => by
    obtain ⟨v, r, e', f, g⟩ := h
    simp at e
    subst e e'
    exact ⟨v, rfl, f⟩
  | d :: ds, _, i + 1, _, h, e => by
    obtain ⟨v, r, e', f, g⟩ := h
    subst e'
    obtain ⟨u, h1, h2⟩ := Dats.get (i := i) g (by simpa using e)
    exact ⟨u, by simpa using h1, h2⟩
theorem Dats.get' : ∀ {ds : List D} {vs : List V} {i : Nat} {v : V}, Dats K W H ds vs → vs[i]? = some v → ∃ d, ds[i]? = some d ∧ Dat K W H d v
  | [], _, _, _, h, e => by rw [show _ = _ from h] at e; simp at e
  | d :: ds, _, 0, _, h, e => by
    obtain ⟨v, r, e', f, g⟩ := h
    subst e'
    simp at e
    subst e
    exact ⟨d, rfl, f⟩
  | d :: ds, _, i + 1, _, h, e => by
    obtain ⟨v, r, e', f, g⟩ := h
    subst e'
    obtain ⟨u, h1, h2⟩ := Dats.get' (i := i) g (by simpa using e)
    exact ⟨u, by simpa using h1, h2⟩
theorem Dats.take : ∀ {ds : List D} {vs : List V} (n : Nat), Dats K W H ds vs → Dats K W H (ds.take n) (vs.take n)
  | _, _, 0, _ => by simp [Dats]
  | [], _, n + 1, h => by rw [show _ = _ from h]; simp [Dats]
  | d :: ds, _, n + 1, h => by
    obtain ⟨v, r, e, f, g⟩ := h
    subst e
    exact Dats.cons f (Dats.take n g)
theorem Dats.drop : ∀ {ds : List D} {vs : List V} (n : Nat), Dats K W H ds vs → Dats K W H (ds.drop n) (vs.drop n)
  | _, _, 0, h => h
  | [], _, n + 1, h => by rw [show _ = _ from h]; simp [Dats]
  | d :: ds, _, n + 1, h => by
    obtain ⟨v, r, e, f, g⟩ := h
    subst e
    exact Dats.drop n g
theorem Dats.set {d : D} {v : V} (hd : Dat K W H d v) : ∀ {ds : List D} {vs : List V} (n : Nat), Dats K W H ds vs → Dats K W H (ds.set n d) (vs.set n v)
  | [], _, n, h => by rw [show _ = _ from h]; simp [Dats]
  | e :: ds, _, 0, h => by
    obtain ⟨u, r, e, f, g⟩ := h
    subst e
    exact Dats.cons hd g
  | e :: ds, _, n + 1, h => by
    obtain ⟨u, r, e, f, g⟩ := h
    subst e
    exact Dats.cons f (Dats.set hd n g)
theorem Dats.eraseIdx : ∀ {ds : List D} {vs : List V} (n : Nat), Dats K W H ds vs → Dats K W H (ds.eraseIdx n) (vs.eraseIdx n)
  | [], _, n, h => by rw [show _ = _ from h]; simp [Dats]
  | e :: ds, _, 0, h => by
    obtain ⟨u, r, e, f, g⟩ := h
    subst e
    exact g
  | e :: ds, _, n + 1, h => by
    obtain ⟨u, r, e, f, g⟩ := h
    subst e
    exact Dats.cons f (Dats.eraseIdx n g)
theorem Dats.reverse : ∀ {ds : List D} {vs : List V}, Dats K W H ds vs → Dats K W H ds.reverse vs.reverse
  | [], _, h => by rw [show _ = _ from h]; simp [Dats]
  | d :: ds, _, h => by
    obtain ⟨v, r, e, f, g⟩ := h
    subst e
    simp only [List.reverse_cons]
    exact Dats.append (Dats.reverse g) (Dats.cons f rfl)
theorem Dats.nil : Dats K W H [] [] := rfl
theorem Dats.replicate {d : D} {v : V} (hd : Dat K W H d v) : ∀ n : Nat, Dats K W H (List.replicate n d) (List.replicate n v)
  | 0 => rfl
  | n + 1 => Dats.cons hd (Dats.replicate hd n)
theorem Dats.rep {ds : List D} {vs : List V} (h : Dats K W H ds vs) : ∀ n : Nat, Dats K W H (List.replicate n ds).flatten (List.replicate n vs).flatten
  | 0 => rfl
  | n + 1 => by
    rw [List.replicate_succ, List.replicate_succ, List.flatten_cons, List.flatten_cons]
    exact h.append (Dats.rep h n)
theorem Dats.ints : ∀ {ns : List Int} {vs : List V}, Dats K W H (ns.map D.int) vs → vs = ns.map V.int
  | [], _, h => h
  | n :: ns, _, h => by
    obtain ⟨v, r, e, f, g⟩ := h
    rw [e, show v = V.int n from f, Dats.ints g]
    rfl
theorem Dats.of_ints : ∀ (ns : List Int), Dats K W H (ns.map D.int) (ns.map V.int)
  | [] => rfl
  | n :: ns => Dats.cons (show V.int n = V.int n from rfl) (Dats.of_ints ns)
end

/-- the store lies in the heap -/
structure WOk (K : PySem.W.Frag) (W : Wd) (H : Hp) (st : Store) : Prop where
  len : W.φ.length = st.length
  nd : W.φ.Nodup
  nz : ∀ a ∈ W.φ, ¬ W.Z a
  obj : ∀ (i : Nat) (a : Addr) (ds : List D), W.φ[i]? = some a → st[i]? = some ds → ∃ vs, H a = some (.lst vs) ∧ Dats K W H ds vs
  zok : ∀ a, W.Z a → H a ≠ none
section
variable {K : PySem.W.Frag} {W W' : Wd} {H H' : Hp} {st : Store}
theorem WOk.tr (w : WOk K W H st) {a : Addr} (h : a ∈ W.φ) : H a ≠ none := by
  obtain ⟨i, hi, e⟩ := List.mem_iff_getElem.mp h
  have e1 : W.φ[i]? = some a := by rw [List.getElem?_eq_getElem hi, e]
  have h2 : i < st.length := by rw [← w.len]; exact hi
  obtain ⟨vs, e2, _⟩ := w.obj i a st[i] e1 (List.getElem?_eq_getElem h2)
  rw [e2]; simp
/-- a cell that was not tracked ahead of a step from W0 -/
theorem Step.fresh {W0 : Wd} {H0 : Hp} (s : Step W0 H0 W H) (w0 : ∀ a, W0.Z a → H0 a ≠ none) (w : WOk K W H st) {a : Addr} (h : H a = none) : H0 a = none := by
  refine Classical.byContradiction fun n => ?_
  by_cases z : W0.Z a
  · exact w.zok a (s.z a z) h
  · by_cases p : a ∈ W0.φ
    · obtain ⟨m, e⟩ := s.φ
      exact w.tr (by rw [e]; exact List.mem_append_left _ p) h
    · rw [(s.keep a n z p).1] at h
      exact n h
/-- a new cell, frozen at once -/
def Wd.fz (W : Wd) (p : Addr) : Wd := ⟨fun a => a = p ∨ W.Z a, W.φ⟩
theorem Step.laid (w : WOk K W H st) {p : Addr} (hp : H p = none) (o : HO) : Step W H (W.fz p) (upd H p o) := by
  refine ⟨⟨fun _ h => .inr h, fun a h => ?_, [], by simp [Wd.fz]⟩, fun a h1 h2 h3 => ?_⟩
  · exact upd_ne fun e => w.zok a h (by rw [e]; exact hp)
  · have ne : a ≠ p := fun e => h1 (by rw [e]; exact hp)
    exact ⟨upd_ne ne, fun z => z.elim ne h2, h3⟩
/-- a new cell of one's own -/
theorem Step.own (w : WOk K W H st) {p : Addr} (hp : H p = none) (o : HO) : Step W H W (upd H p o) := by
  refine ⟨⟨fun _ h => h, fun a h => ?_, [], by simp⟩, fun a h1 h2 h3 => ?_⟩
  · exact upd_ne fun e => w.zok a h (by rw [e]; exact hp)
  · have ne : a ≠ p := fun e => h1 (by rw [e]; exact hp)
    exact ⟨upd_ne ne, h2, h3⟩
theorem WOk.own (w : WOk K W H st) {p : Addr} (hp : H p = none) (o : HO) : WOk K W (upd H p o) st := by
  have s := (Step.own w hp o).toPer
  refine ⟨w.len, w.nd, w.nz, fun i a ds h1 h2 => ?_, fun a h => ?_⟩
  · obtain ⟨vs, e1, e2⟩ := w.obj i a ds h1 h2
    have ne : a ≠ p := fun e => by rw [e, hp] at e1; cases e1
    exact ⟨vs, by rw [upd_ne ne]; exact e1, Dats.per s _ _ e2⟩
  · rw [s.h a h]; exact w.zok a h
theorem WOk.laid (w : WOk K W H st) {p : Addr} (hp : H p = none) (o : HO) : WOk K (W.fz p) (upd H p o) st := by
  have s := (Step.laid w hp o).toPer
  refine ⟨w.len, w.nd, fun a h z => ?_, fun i a ds h1 h2 => ?_, fun a h => ?_⟩
  · rcases z with e | z
    · exact w.tr h (by rw [e]; exact hp)
    · exact w.nz a h z
  · obtain ⟨vs, e1, e2⟩ := w.obj i a ds h1 h2
    have ne : a ≠ p := fun e => by rw [e, hp] at e1; cases e1
    exact ⟨vs, by rw [upd_ne ne]; exact e1, Dats.per s _ _ e2⟩
  · rcases h with e | h
    · rw [e, upd_same]; simp
    · rw [s.h a h]; exact w.zok a h
/-- an own cell is frozen -/
theorem Per.fz (W : Wd) (H : Hp) (p : Addr) : Per W H (W.fz p) H := ⟨fun _ h => .inr h, fun _ _ => rfl, [], by simp [Wd.fz]⟩
theorem WOk.fz (w : WOk K W H st) {p : Addr} (hp : H p ≠ none) (hn : p ∉ W.φ) : WOk K (W.fz p) H st := by
  refine ⟨w.len, w.nd, fun a h z => ?_, fun i a ds h1 h2 => ?_, fun a h => ?_⟩
  · rcases z with e | z
    · exact hn (e ▸ h)
    · exact w.nz a h z
  · obtain ⟨vs, e1, e2⟩ := w.obj i a ds h1 h2
    exact ⟨vs, e1, Dats.per (Per.fz W H p) _ _ e2⟩
  · rcases h with e | h
    · rw [e]; exact hp
    · exact w.zok a h
/-- a new list of the store -/
def Wd.bx (W : Wd) (p : Addr) : Wd := ⟨W.Z, W.φ ++ [p]⟩
theorem Per.bx (W : Wd) (H : Hp) (p : Addr) : Per W H (W.bx p) H := ⟨fun _ h => h, fun _ _ => rfl, [p], rfl⟩
theorem WOk.bx (w : WOk K W H st) {p : Addr} {vs : List V} {ds : List D} (hp : H p = some (.lst vs)) (hz : ¬ W.Z p) (hn : p ∉ W.φ) (hd : Dats K W H ds vs) : WOk K (W.bx p) H (st ++ [ds]) := by
  have s := Per.bx W H p
  refine ⟨by simp [Wd.bx, w.len], List.nodup_append.mpr ⟨w.nd, by simp, fun a h b h2 => ?_⟩, fun a h => ?_, fun i a es h1 h2 => ?_, w.zok⟩
  · rw [List.mem_singleton] at h2
    rw [h2]
    exact fun e => hn (e ▸ h)
  · rcases List.mem_append.mp h with h | h
    · exact w.nz a h
    · rw [List.mem_singleton] at h; rw [h]; exact hz
  · by_cases hi : i < W.φ.length
    · rw [show (W.bx p).φ = W.φ ++ [p] from rfl, List.getElem?_append_left hi] at h1
      rw [List.getElem?_append_left (by rw [← w.len]; exact hi)] at h2
      obtain ⟨us, e1, e2⟩ := w.obj i a es h1 h2
      exact ⟨us, e1, Dats.per s _ _ e2⟩
    · rw [show (W.bx p).φ = W.φ ++ [p] from rfl, List.getElem?_append_right (by omega)] at h1
      rw [List.getElem?_append_right (by rw [← w.len]; omega)] at h2
      have e0 : i - W.φ.length = 0 := by
        cases e : i - W.φ.length with
        | zero => rfl
        | succ k => rw [e] at h1; simp at h1
      rw [e0] at h1
      rw [← w.len, e0] at h2
      simp at h1 h2
      subst h1 h2
      exact ⟨vs, hp, Dats.per s _ _ hd⟩
/-- a list of the store is changed -/
theorem WOk.upd_at (w : WOk K W H st) {i : Nat} {p : Addr} {vs : List V} {ds : List D} (hi : W.φ[i]? = some p) (hd : Dats K W H ds vs) : Per W H W (upd H p (.lst vs)) ∧ WOk K W (upd H p (.lst vs)) (st.set i ds) := by
  have mem : p ∈ W.φ := List.mem_of_getElem? hi
  have s : Per W H W (upd H p (.lst vs)) := ⟨fun _ h => h, fun a h => upd_ne fun e => w.nz p mem (e ▸ h), [], by simp⟩
  refine ⟨s, by rw [List.length_set]; exact w.len, w.nd, w.nz, fun j a es h1 h2 => ?_, fun a h => by rw [s.h a h]; exact w.zok a h⟩
  by_cases e : j = i
  · subst e
    rw [hi] at h1
    cases h1
    have hl : j < st.length := by rw [← w.len]; exact (List.getElem?_eq_some_iff.mp hi).1
    rw [List.getElem?_set_self hl] at h2
    cases h2
    exact ⟨vs, upd_same, Dats.per s _ _ hd⟩
  · rw [List.getElem?_set_ne (fun z => e z.symm)] at h2
    obtain ⟨us, e1, e2⟩ := w.obj j a es h1 h2
    have ne : a ≠ p := fun z => by
      subst z
      have hj := (List.getElem?_eq_some_iff.mp h1)
      have hi' := (List.getElem?_eq_some_iff.mp hi)
      exact e ((List.getElem_inj (xs := W.φ) (h₀ := hj.1) (h₁ := hi'.1) w.nd).mp (hj.2.trans hi'.2.symm))
    exact ⟨us, by rw [upd_ne ne]; exact e1, Dats.per s _ _ e2⟩
end
end DL

/-! DLJ: the frame's relation and the judgements. -/
namespace DL
open PySem L2 PySem.Spec PyProof.Rows

/-- the module: fixed through the law -/
structure Tab where
  P : Program
  w : World
  K : PySem.W.Frag
  mg : Str → Option Value
  base : Heap
  cls : String → Option Addr
  att : String → Option Str

/-- an exception of the class named c with the value v -/
def ExcR (T : Tab) (W : Wd) (H : Hp) (c : String) (v : D) (cls : Value) (d : Option Addr) : Prop :=
  ∃ C, T.cls c = some C ∧ cls = .ref C ∧ match T.att c with
    | none => v = .non ∧ d = none
    | some f => ∃ dd vv, d = some dd ∧ W.Z dd ∧ H dd = some (.xd [(f, vv)]) ∧ Dat T.K W H v vv
theorem ExcR.per {T : Tab} {W W' : Wd} {H H' : Hp} (p : Per W H W' H') {c : String} {v : D} {cls : Value} {d : Option Addr} (h : ExcR T W H c v cls d) : ExcR T W' H' c v cls d := by
  obtain ⟨C, h1, h2, h3⟩ := h
  refine ⟨C, h1, h2, ?_⟩
  cases e : T.att c with
  | none => rw [e] at h3; exact h3
  | some f =>
    rw [e] at h3
    obtain ⟨dd, vv, e1, z, e2, e3⟩ := h3
    exact ⟨dd, vv, e1, p.z dd z, by rw [p.h dd z]; exact e2, Dat.per p _ _ e3⟩

abbrev Hnd := Option (Addr × Value × Option Addr)
/-- inner own lists -/
def O2 (K : PySem.W.Frag) (W : Wd) (H : Hp) : List (List D) → List Addr → Prop
  | [], as => as = []
  | xs :: r, as => ∃ a as' vs, as = a :: as' ∧ H a = some (.lst vs) ∧ Dats K W H xs vs ∧ O2 K W H r as'
def SlR (T : Tab) (W : Wd) (H : Hp) (hnd : Hnd) : Sl → V → List Addr → Prop
  | .sh d, v, F => F = [] ∧ Dat T.K W H d v
  | .o1 xs, v, F => ∃ a vs, v = .ref a ∧ F = [a] ∧ H a = some (.lst vs) ∧ Dats T.K W H xs vs
  | .o2 xss, v, F => ∃ a as, v = .ref a ∧ F = a :: as ∧ H a = some (.lst (as.map V.ref)) ∧ O2 T.K W H xss as
  | .exn c d, v, F => F = [] ∧ ∃ e cls dd, v = .ref e ∧ hnd = some (e, cls, dd) ∧ ExcR T W H c d cls dd
theorem O2.per {K : PySem.W.Frag} {W W' : Wd} {H H' : Hp} (p : Per W H W' H') : ∀ {xss : List (List D)} {as : List Addr}, (∀ a ∈ as, H' a = H a) → O2 K W H xss as → O2 K W' H' xss as
  | [], _, _, h => h
  | xs :: r, _, k, h => by
    obtain ⟨a, as', vs, e, e1, e2, e3⟩ := h
    subst e
    exact ⟨a, as', vs, rfl, by rw [k a (List.mem_cons_self ..)]; exact e1, Dats.per p _ _ e2, O2.per p (fun b hb => k b (List.mem_cons_of_mem _ hb)) e3⟩
theorem O2.len {K : PySem.W.Frag} {W : Wd} {H : Hp} : ∀ {xss : List (List D)} {as : List Addr}, O2 K W H xss as → xss.length = as.length
  | [], _, h => by rw [show _ = _ from h]; rfl
  | xs :: r, _, h => by
    obtain ⟨a, as', vs, e, e1, e2, e3⟩ := h
    subst e
    rw [List.length_cons, List.length_cons, O2.len e3]
theorem O2.get {K : PySem.W.Frag} {W : Wd} {H : Hp} : ∀ {xss : List (List D)} {as : List Addr} {j : Nat} {xs : List D}, O2 K W H xss as → xss[j]? = some xs → ∃ a vs, as[j]? = some a ∧ H a = some (.lst vs) ∧ Dats K W H xs vs
  | [], _, _, _, _, e => by simp at e
  | ys :: r, _, 0, _, h, e => by
    obtain ⟨a, as', vs, e', e1, e2, e3⟩ := h
    subst e'
    simp at e
    subst e
    exact ⟨a, vs, rfl, e1, e2⟩
  | ys :: r, _, j + 1, _, h, e => by
    obtain ⟨a, as', vs, e', e1, e2, e3⟩ := h
    subst e'
    obtain ⟨b, us, h1, h2, h3⟩ := O2.get (j := j) e3 (by simpa using e)
    exact ⟨b, us, by simpa using h1, h2, h3⟩
theorem SlR.per {T : Tab} {W W' : Wd} {H H' : Hp} {hnd : Hnd} (p : Per W H W' H') {s : Sl} {v : V} {F : List Addr} (k : ∀ a ∈ F, H' a = H a) (h : SlR T W H hnd s v F) : SlR T W' H' hnd s v F := by
  cases s with
  | sh d => exact ⟨h.1, Dat.per p _ _ h.2⟩
  | o1 xs =>
    obtain ⟨a, vs, e, e1, e2, e3⟩ := h
    exact ⟨a, vs, e, e1, by rw [k a (by rw [e1]; exact List.mem_singleton.mpr rfl)]; exact e2, Dats.per p _ _ e3⟩
  | o2 xss =>
    obtain ⟨a, as, e, e1, e2, e3⟩ := h
    exact ⟨a, as, e, e1, by rw [k a (by rw [e1]; exact List.mem_cons_self ..)]; exact e2, O2.per p (fun b hb => k b (by rw [e1]; exact List.mem_cons_of_mem _ hb)) e3⟩
  | exn c d =>
    obtain ⟨e, b, cls, dd, e1, e2, e3⟩ := h
    exact ⟨e, b, cls, dd, e1, e2, e3.per p⟩

/-- the slots' own cells -/
structure Owns (W : Wd) (H0 H : Hp) (F : Nat → List Addr) : Prop where
  ok : ∀ i, ∀ a ∈ F i, H0 a = none ∧ H a ≠ none ∧ ¬ W.Z a ∧ a ∉ W.φ
  nd : ∀ i, (F i).Nodup
  ap : ∀ i j a, a ∈ F i → a ∈ F j → i = j
/-- the frame: the module, the entry, the exception at hand -/
structure Fm where
  T : Tab
  W0 : Wd
  H0 : Hp
  hnd : Hnd
abbrev Slots (f : Fm) (W : Wd) (H : Hp) (σ : L2.St) (ρ : Env) (F : Nat → List Addr) : Prop :=
  ∀ (i : Nat) (s : Sl), ρ[i]? = some (some s) → ∃ v, σ[i]? = some (some v) ∧ SlR f.T W H f.hnd s v (F i)
/-- X: cells that are owned but in no slot yet -/
structure RelS (f : Fm) (X : List Addr) (W : Wd) (H : Hp) (σ : L2.St) (ρ : Env) (st : Store) : Prop where
  w0 : ∀ a, f.W0.Z a → f.H0 a ≠ none
  wok : WOk f.T.K W H st
  since : Step f.W0 f.H0 W H
  len : ρ.length = σ.length
  own : ∃ F : Nat → List Addr, Owns W f.H0 H F ∧ F ρ.length = X ∧ Slots f W H σ ρ F
section
variable {f : Fm} {T : Tab} {X : List Addr} {W0 W W' : Wd} {H0 H H' : Hp} {hnd : Hnd} {σ : L2.St} {ρ : Env} {st st' : Store}
theorem RelS.step (r : RelS f X W H σ ρ st) (s : Step W H W' H') (w : WOk f.T.K W' H' st') : RelS f X W' H' σ ρ st' := by
  refine ⟨r.w0, w, r.since.trans s, r.len, ?_⟩
  obtain ⟨F, O, hX, h⟩ := r.own
  have k : ∀ i, ∀ a ∈ F i, H' a = H a ∧ ¬ W'.Z a ∧ a ∉ W'.φ := fun i a ha => by
    obtain ⟨h1, h2, h3, h4⟩ := O.ok i a ha
    exact s.keep a h2 h3 h4
  refine ⟨F, ⟨fun i a ha => ?_, O.nd, O.ap⟩, hX, fun i sl e => ?_⟩
  · obtain ⟨h1, h2, h3, h4⟩ := O.ok i a ha
    obtain ⟨k1, k2, k3⟩ := k i a ha
    exact ⟨h1, by rw [k1]; exact h2, k2, k3⟩
  · obtain ⟨v, e1, e2⟩ := h i sl e
    exact ⟨v, e1, e2.per s.toPer fun a ha => (k i a ha).1⟩
theorem Owns.drop {F : Nat → List Addr} (O : Owns W H0 H F) (i : Nat) : Owns W H0 H (fun j => if j = i then [] else F j) := by
  refine ⟨fun j a ha => ?_, fun j => ?_, fun j k a h1 h2 => ?_⟩
  · by_cases e : j = i
    · simp only [e, if_true] at ha; cases ha
    · simp only [e, if_false] at ha; exact O.ok j a ha
  · by_cases e : j = i
    · simp [e]
    · simp only [e, if_false]; exact O.nd j
  · by_cases e : j = i
    · simp only [e, if_true] at h1; cases h1
    · by_cases e2 : k = i
      · simp only [e2, if_true] at h2; cases h2
      · simp only [e, e2, if_false] at h1 h2; exact O.ap j k a h1 h2
/-- a shared datum is stored -/
theorem RelS.set (r : RelS f [] W H σ ρ st) {i : Nat} {d : D} {v : V} (hd : Dat f.T.K W H d v) : RelS f [] W H (σ.set i (some v)) (ρ.set i (some (.sh d))) st := by
  refine ⟨r.w0, r.wok, r.since, by rw [List.length_set, List.length_set]; exact r.len, ?_⟩
  obtain ⟨F, O, hX, h⟩ := r.own
  refine ⟨fun j => if j = i then [] else F j, O.drop i, ?_, fun j sl e => ?_⟩
  · rw [List.length_set]
    by_cases e : ρ.length = i
    · simp [e]
    · simp only [e, if_false]; exact hX
  · by_cases e2 : j = i
    · subst e2
      have hl : j < ρ.length := by
        have := (List.getElem?_eq_some_iff.mp e).1
        rwa [List.length_set] at this
      rw [List.getElem?_set_self hl] at e
      cases e
      refine ⟨v, List.getElem?_set_self (by rw [← r.len]; exact hl), ?_⟩
      simp only [if_true]
      exact ⟨rfl, hd⟩
    · rw [List.getElem?_set_ne (fun z => e2 z.symm)] at e
      obtain ⟨u, e3, e4⟩ := h j sl e
      refine ⟨u, by rw [List.getElem?_set_ne (fun z => e2 z.symm)]; exact e3, ?_⟩
      simp only [e2, if_false]
      exact e4
/-- a slot is forgotten -/
theorem RelS.kill (r : RelS f X W H σ ρ st) (i : Nat) : RelS f X W H σ (ρ.set i none) st := by
  refine ⟨r.w0, r.wok, r.since, by rw [List.length_set]; exact r.len, ?_⟩
  obtain ⟨F, O, hX, h⟩ := r.own
  refine ⟨F, O, by rw [List.length_set]; exact hX, fun j sl e => ?_⟩
  by_cases e2 : j = i
  · subst e2
    have hl : j < ρ.length := by
      have := (List.getElem?_eq_some_iff.mp e).1
      rwa [List.length_set] at this
    rw [List.getElem?_set_self hl] at e
    cases e
  · rw [List.getElem?_set_ne (fun z => e2 z.symm)] at e
    exact h j sl e
/-- a slot's lists are frozen -/
theorem fz_many : ∀ (l : List Addr) {W : Wd} {H : Hp}, WOk T.K W H st → (∀ a ∈ l, H a ≠ none ∧ a ∉ W.φ) →
    ∃ W', Per W H W' H ∧ WOk T.K W' H st ∧ W'.φ = W.φ ∧ ∀ a, W'.Z a ↔ a ∈ l ∨ W.Z a
  | [], W, H, w, _ => ⟨W, Per.refl W H, w, rfl, fun a => by simp⟩
  | b :: l, W, H, w, h => by
    obtain ⟨h1, h2⟩ := h b (List.mem_cons_self ..)
    obtain ⟨W', p, w', e, z⟩ := fz_many l (w.fz h1 h2) fun a ha => h a (List.mem_cons_of_mem _ ha)
    refine ⟨W', (Per.fz W H b).trans p, w', e, fun a => ?_⟩
    rw [z a]
    show a ∈ l ∨ (a = b ∨ W.Z a) ↔ _
    rw [List.mem_cons]
    constructor
    · rintro (h | h | h)
      · exact .inl (.inr h)
      · exact .inl (.inl h)
      · exact .inr h
    · rintro ((h | h) | h)
      · exact .inr (.inl h)
      · exact .inl h
      · exact .inr (.inr h)
theorem O2.dats {K : PySem.W.Frag} {W : Wd} {H : Hp} : ∀ {xss : List (List D)} {as : List Addr}, O2 K W H xss as → (∀ a ∈ as, W.Z a) → Dats K W H (xss.map D.lst) (as.map V.ref)
  | [], _, h, _ => by rw [show _ = _ from h]; rfl
  | xs :: r, _, h, z => by
    obtain ⟨a, as', vs, e, e1, e2, e3⟩ := h
    subst e
    exact Dats.cons ⟨a, vs, rfl, ⟨z a (List.mem_cons_self ..), e1⟩, e2⟩ (O2.dats e3 fun b hb => z b (List.mem_cons_of_mem _ hb))
theorem SlR.frz {W' : Wd} {s : Sl} {v : V} {F : List Addr} (p : Per W H W' H) (z : ∀ a ∈ F, W'.Z a) (h : SlR T W H hnd s v F) : SlR T W' H hnd (frzS s) v [] := by
  cases s with
  | sh d => exact ⟨rfl, Dat.per p _ _ h.2⟩
  | o1 xs =>
    obtain ⟨a, vs, e, e1, e2, e3⟩ := h
    exact ⟨rfl, a, vs, e, ⟨z a (by rw [e1]; exact List.mem_singleton.mpr rfl), e2⟩, Dats.per p _ _ e3⟩
  | o2 xss =>
    obtain ⟨a, as, e, e1, e2, e3⟩ := h
    exact ⟨rfl, a, as.map V.ref, e, ⟨z a (by rw [e1]; exact List.mem_cons_self ..), e2⟩, O2.dats (O2.per p (fun _ _ => rfl) e3) fun b hb => z b (by rw [e1]; exact List.mem_cons_of_mem _ hb)⟩
  | exn c d =>
    obtain ⟨e, b, cls, dd, e1, e2, e3⟩ := h
    exact ⟨rfl, b, cls, dd, e1, e2, e3.per p⟩
/-- cells of one index are frozen -/
theorem RelS.fzF (r : RelS f X W H σ ρ st) (i : Nat) : ∃ (F : Nat → List Addr) (W' : Wd), Owns W f.H0 H F ∧ F ρ.length = X ∧ Slots f W H σ ρ F ∧ Per W H W' H ∧ WOk f.T.K W' H st ∧ W'.φ = W.φ ∧ (∀ a, W'.Z a ↔ a ∈ F i ∨ W.Z a) ∧
    Step f.W0 f.H0 W' H ∧ Owns W' f.H0 H (fun j => if j = i then [] else F j) := by
  obtain ⟨F, O, hX, h⟩ := r.own
  obtain ⟨W', p, w', e, z⟩ := fz_many (T := f.T) (F i) r.wok fun a ha => ⟨(O.ok i a ha).2.1, (O.ok i a ha).2.2.2⟩
  refine ⟨F, W', O, hX, h, p, w', e, z, ⟨r.since.toPer.trans p, fun a h1 h2 h3 => ?_⟩, ?_⟩
  · obtain ⟨k1, k2, k3⟩ := r.since.keep a h1 h2 h3
    refine ⟨k1, fun q => ?_, by rw [e]; exact k3⟩
    rcases (z a).mp q with q | q
    · exact h1 (O.ok i a q).1
    · exact k2 q
  · refine ⟨fun j a ha => ?_, (O.drop i).nd, (O.drop i).ap⟩
    by_cases e2 : j = i
    · simp only [e2, if_true] at ha; cases ha
    · simp only [e2, if_false] at ha
      obtain ⟨h1, h2, h3, h4⟩ := O.ok j a ha
      refine ⟨h1, h2, fun q => ?_, by rw [e]; exact h4⟩
      rcases (z a).mp q with q | q
      · exact e2 (O.ap j i a ha q)
      · exact h3 q
theorem RelS.frz' (r : RelS f X W H σ ρ st) {i : Nat} {s : Sl} (hi : ρ[i]? = some (some s)) : ∃ W', RelS f X W' H σ (ρ.set i (some (frzS s))) st ∧ Per W H W' H := by
  obtain ⟨F, W', O, hX, h, p, w', e, z, st', O'⟩ := r.fzF i
  have hl : i < ρ.length := (List.getElem?_eq_some_iff.mp hi).1
  refine ⟨W', ⟨r.w0, w', st', by rw [List.length_set]; exact r.len, _, O', ?_, fun j sl ej => ?_⟩, p⟩
  · rw [List.length_set]
    show (if ρ.length = i then [] else F ρ.length) = X
    rw [if_neg (by omega)]
    exact hX
  · by_cases e2 : j = i
    · subst e2
      rw [List.getElem?_set_self hl] at ej
      cases ej
      obtain ⟨v, h1, h2⟩ := h j s hi
      refine ⟨v, h1, ?_⟩
      simp only [if_true]
      exact h2.frz p fun a ha => (z a).mpr (.inl ha)
    · rw [List.getElem?_set_ne (fun q => e2 q.symm)] at ej
      obtain ⟨u, e3, e4⟩ := h j sl ej
      refine ⟨u, e3, ?_⟩
      simp only [e2, if_false]
      exact e4.per p fun _ _ => rfl
/-- what was owned in no slot is frozen -/
theorem RelS.frzX (r : RelS f X W H σ ρ st) : ∃ W', RelS f [] W' H σ ρ st ∧ Per W H W' H ∧ (∀ a ∈ X, W'.Z a) ∧ W'.φ = W.φ ∧ (∀ a, W'.Z a → W.Z a ∨ a ∈ X) := by
  obtain ⟨F, W', O, hX, h, p, w', e, z, st', O'⟩ := r.fzF ρ.length
  refine ⟨W', ⟨r.w0, w', st', r.len, _, O', by simp, fun j sl ej => ?_⟩, p, fun a ha => (z a).mpr (.inl (by rw [hX]; exact ha)), e, fun a ha => by rw [← hX]; exact ((z a).mp ha).symm⟩
  have hl : j < ρ.length := (List.getElem?_eq_some_iff.mp ej).1
  obtain ⟨u, e3, e4⟩ := h j sl ej
  refine ⟨u, e3, ?_⟩
  simp only [show ¬ j = ρ.length by omega, if_false]
  exact e4.per p fun _ _ => rfl
/-- a fresh cell is owned from now on -/
theorem RelS.claim (r : RelS f [] W H σ ρ st) {p : Addr} (hp : H p = none) {o : HO} (w : WOk f.T.K W (upd H p o) st) : RelS f [p] W (upd H p o) σ ρ st := by
  have s : Step W H W (upd H p o) := Step.own r.wok hp o
  have r' := r.step s w
  refine ⟨r.w0, w, r'.since, r.len, ?_⟩
  obtain ⟨F, O, hX, h⟩ := r.own
  have np : ∀ j, p ∉ F j := fun j q => (O.ok j p q).2.1 hp
  have k : ∀ j, ∀ a ∈ F j, upd H p o a = H a := fun j a ha => upd_ne fun e => np j (e ▸ ha)
  refine ⟨fun j => if j = ρ.length then [p] else F j, ⟨fun j a ha => ?_, fun j => ?_, fun j i a h1 h2 => ?_⟩, by simp, fun j sl e => ?_⟩
  · by_cases e : j = ρ.length
    · simp only [e, if_true] at ha
      rw [List.mem_singleton] at ha
      subst ha
      exact ⟨r.since.fresh r.w0 r.wok hp, by rw [upd_same]; simp, fun z => r.wok.zok _ z hp, fun z => r.wok.tr z hp⟩
    · simp only [e, if_false] at ha
      obtain ⟨h1, h2, h3, h4⟩ := O.ok j a ha
      exact ⟨h1, by rw [k j a ha]; exact h2, h3, h4⟩
  · by_cases e : j = ρ.length
    · simp [e]
    · simp only [e, if_false]; exact O.nd j
  · by_cases e : j = ρ.length
    · simp only [e, if_true] at h1
      rw [List.mem_singleton] at h1
      by_cases e2 : i = ρ.length
      · rw [e, e2]
      · simp only [e2, if_false] at h2
        exact absurd (h1 ▸ h2) (np i)
    · by_cases e2 : i = ρ.length
      · simp only [e2, if_true] at h2
        rw [List.mem_singleton] at h2
        simp only [e, if_false] at h1
        exact absurd (h2 ▸ h1) (np j)
      · simp only [e, e2, if_false] at h1 h2; exact O.ap j i a h1 h2
  · have hl : j < ρ.length := (List.getElem?_eq_some_iff.mp e).1
    obtain ⟨u, e3, e4⟩ := h j sl e
    refine ⟨u, e3, ?_⟩
    simp only [show ¬ j = ρ.length by omega, if_false]
    exact e4.per s.toPer (k j)
/-- what is owned goes into a slot -/
theorem RelS.setX (r : RelS f X W H σ ρ st) {i : Nat} {s : Sl} {v : V} (hs : SlR f.T W H f.hnd s v X) : RelS f [] W H (σ.set i (some v)) (ρ.set i (some s)) st := by
  refine ⟨r.w0, r.wok, r.since, by rw [List.length_set, List.length_set]; exact r.len, ?_⟩
  obtain ⟨F, O, hX, h⟩ := r.own
  refine ⟨fun j => if j = ρ.length then [] else if j = i then X else F j, ⟨fun j b hb => ?_, fun j => ?_, fun j k b h1 h2 => ?_⟩, by rw [List.length_set]; simp, fun j sl e => ?_⟩
  · by_cases e : j = ρ.length
    · simp only [e, if_true] at hb; cases hb
    · by_cases e2 : j = i
      · simp only [e, e2, if_true, if_false] at hb
        rw [← hX] at hb
        exact O.ok _ b (by
          by_cases e3 : i = ρ.length
          · exact absurd (e2.trans e3) e
          · simp only [e3, if_false] at hb; exact hb)
      · simp only [e, e2, if_false] at hb; exact O.ok j b hb
  · by_cases e : j = ρ.length
    · simp [e]
    · by_cases e2 : j = i
      · simp only [e, if_false, e2]
        by_cases e3 : i = ρ.length
        · simp [e3]
        · simp only [e3, if_false, if_true]; rw [← hX]; exact O.nd _
      · simp only [e, e2, if_false]; exact O.nd j
  · have fx : ∀ {m : Nat} {b : Addr}, b ∈ (if m = ρ.length then ([] : List Addr) else if m = i then X else F m) → ¬ m = ρ.length ∧ ((m = i ∧ b ∈ F ρ.length) ∨ (¬ m = i ∧ b ∈ F m)) := by
      intro m b hb
      by_cases e : m = ρ.length
      · rw [if_pos e] at hb; cases hb
      · rw [if_neg e] at hb
        by_cases e2 : m = i
        · rw [if_pos e2] at hb; exact ⟨e, .inl ⟨e2, by rw [hX]; exact hb⟩⟩
        · rw [if_neg e2] at hb; exact ⟨e, .inr ⟨e2, hb⟩⟩
    obtain ⟨n1, g1⟩ := fx h1
    obtain ⟨n2, g2⟩ := fx h2
    rcases g1 with ⟨a1, a2⟩ | ⟨a1, a2⟩ <;> rcases g2 with ⟨b1, b2⟩ | ⟨b1, b2⟩
    · rw [a1, b1]
    · exact absurd (O.ap _ _ b a2 b2).symm n2
    · exact absurd (O.ap _ _ b a2 b2) n1
    · exact O.ap _ _ b a2 b2
  · have hl : j < ρ.length := by
      have := (List.getElem?_eq_some_iff.mp e).1
      rwa [List.length_set] at this
    by_cases e2 : j = i
    · subst e2
      rw [List.getElem?_set_self hl] at e
      cases e
      refine ⟨v, List.getElem?_set_self (by rw [← r.len]; exact hl), ?_⟩
      simp only [show ¬ j = ρ.length by omega, if_false, if_true]
      exact hs
    · rw [List.getElem?_set_ne (fun z => e2 z.symm)] at e
      obtain ⟨u, e3, e4⟩ := h j sl e
      refine ⟨u, by rw [List.getElem?_set_ne (fun z => e2 z.symm)]; exact e3, ?_⟩
      simp only [show ¬ j = ρ.length by omega, e2, if_false]
      exact e4
end
end DL

/-! DLE: the judgements of expressions and their rules. -/
namespace DL
open PySem L2 PySem.Spec PyProof.Rows

theorem PE.up {X : Cx} {e : Expr} {t t' : TE} (h : PE X e t) (k : ∀ σ H Q, t' σ H Q → t σ H Q) : PE X e t' := ⟨fun pins s σ H Q I q => h.run pins s σ H Q I (k σ H Q q)⟩
theorem PT.up {X : Cx} {e : Expr} {t t' : TT} (h : PT X e t) (k : ∀ σ H Q, t' σ H Q → t σ H Q) : PT X e t' := ⟨fun pins s σ H Q I q => h.run pins s σ H Q I (k σ H Q q)⟩
theorem PW.up {X : Cx} {e : Expr} {t t' : TT} (h : PW X e t) (k : ∀ σ H Q, t' σ H Q → t σ H Q) : PW X e t' := ⟨fun wh pins s σ H Q I q => h.run wh pins s σ H Q I (k σ H Q q)⟩
theorem PA.up {X : Cx} {es : List Expr} {t t' : TA} (h : PA X es t) (k : ∀ σ H Q, t' σ H Q → t σ H Q) : PA X es t' := ⟨fun pos pins s σ H Q I q => h.run pos pins s σ H Q I (k σ H Q q)⟩
theorem PS.up {X : Cx} {e : Stmt} {t t' : TS} (h : PS X e t) (k : ∀ D σ H, t' D σ H → t D σ H) : PS X e t' := ⟨fun pins s σ H D I q => h.run pins s σ H D I (k D σ H q)⟩
theorem PSs.up {X : Cx} {e : List Stmt} {t t' : TS} (h : PSs X e t) (k : ∀ D σ H, t' D σ H → t D σ H) : PSs X e t' := ⟨fun pins s σ H D I q => h.run pins s σ H D I (k D σ H q)⟩

abbrev XW := Wd → Hp → Env → Store → String → D → Prop
/-- wished from here on -/
def XO (EW : XW) (W : Wd) (H : Hp) (ρ : Env) (st : Store) (c : String) (v : D) : Prop := ∀ W' H', Per W H W' H' → EW W' H' ρ st c v
theorem XO.per {EW : XW} {W W1 : Wd} {H H1 : Hp} {ρ : Env} {st : Store} {c : String} {v : D} (p : Per W H W1 H1) (h : XO EW W H ρ st c v) : XO EW W1 H1 ρ st c v := fun W' H' q => h W' H' (p.trans q)
/-- a wish about exceptions -/
def wD (f : Fm) (EW : XW) : WX := fun cls d σ H => ∃ W ρ st c v, RelS f [] W H σ ρ st ∧ ExcR f.T W H c v cls d ∧ EW W H ρ st c v
/-- where one stands -/
structure Jx where
  f : Fm
  A : Around
  N : List Str
  s_0 : Shared
  H_0 : Hp
  env : PySem.Env
  outer : List PySem.Env
  stack : List PySem.Env
  ex : List Addr
  fn : Str → Bool
  calm : Bool
  pn : List (Addr × PySem.Obj)
  xe : Value → Shared → Prop
  EW : XW
  lev : Nat
  room : calm = true → Room lev A
  gd : A.guards = some []
  nd : N.Nodup
  po : PassesOwn (model f.T.P f.T.w) A env xe
  tk : Takes { prog := f.T.P, w := f.T.w, K := f.T.K, mg := f.T.mg, base := f.T.base, A := A, N := N, s_0 := s_0, H_0 := H_0, env := env, outer := outer, stack := stack, ex := ex, fn := fn, calm := calm, pn := pn, xe := xe } (wD f EW)
abbrev Jx.X (J : Jx) : Cx := { prog := J.f.T.P, w := J.f.T.w, K := J.f.T.K, mg := J.f.T.mg, base := J.f.T.base, A := J.A, N := J.N, s_0 := J.s_0, H_0 := J.H_0, env := J.env, outer := J.outer, stack := J.stack, ex := J.ex, fn := J.fn, calm := J.calm, pn := J.pn, xe := J.xe }

/-- a handle's value -/
def HR (f : Fm) (W : Wd) (H : Hp) (σ : L2.St) (ρ : Env) (v : V) : RD → Prop
  | .d x => Dat f.T.K W H x v
  | .sl i => σ[i]? = some (some v) ∧ ∃ s, ρ[i]? = some (some s)
  | .sl2 i j => ∃ (xss : List (List D)) (a : Addr) (as : List Addr) (b : Addr), ρ[i]? = some (some (.o2 xss)) ∧ σ[i]? = some (some (.ref a)) ∧ H a = some (.lst (as.map V.ref)) ∧ as[j]? = some b ∧ v = .ref b
  | .exn i => σ[i]? = some (some v) ∧ ∃ s, ρ[i]? = some (some s)
/-- how a datum looks -/
def Vw (K : PySem.W.Frag) (W : Wd) (H : Hp) : D → V → Prop
  | .lst ds, v => ∃ a vs, v = .ref a ∧ H a = some (.lst vs) ∧ Dats K W H ds vs
  | .ref _, _ => False
  | d, v => Dat K W H d v
section
variable {f : Fm} {Y : List Addr} {W W' : Wd} {H H' : Hp} {σ : L2.St} {ρ : Env} {st st' : Store}
theorem HR.step (r : RelS f Y W H σ ρ st) (s : Step W H W' H') {v : V} {h : RD} (x : HR f W H σ ρ v h) : HR f W' H' σ ρ v h := by
  cases h with
  | d y => exact Dat.per s.toPer _ _ x
  | sl i => exact x
  | exn i => exact x
  | sl2 i j =>
    obtain ⟨xss, a, as, b, h1, h2, h3, h4, h5⟩ := x
    refine ⟨xss, a, as, b, h1, h2, ?_, h4, h5⟩
    obtain ⟨F, O, hX, hs⟩ := r.own
    obtain ⟨u, e1, e2⟩ := hs i _ h1
    rw [h2] at e1
    cases e1
    obtain ⟨a', as', e3, e4, e5, e6⟩ := e2
    cases e3
    obtain ⟨k1, k2, k3, k4⟩ := O.ok i a (by rw [e4]; exact List.mem_cons_self ..)
    rw [(s.keep a k2 k3 k4).1]
    exact h3
theorem Vw.root (w : WOk f.T.K W H st) {x d : D} {v : V} (h : Dat f.T.K W H x v) (e : root st x = some d) : Vw f.T.K W H d v := by
  cases x with
  | non => cases e; exact h
  | bl b => cases e; exact h
  | int b => cases e; exact h
  | str b => cases e; exact h
  | tup ds => cases e; exact h
  | lst ds =>
    cases e
    obtain ⟨a, vs, e1, e2, e3⟩ := h
    exact ⟨a, vs, e1, e2.2, e3⟩
  | scr ns => cases e; exact h
  | dic _ _ => cases e; exact h
  | ref n =>
    obtain ⟨a, e1, e2⟩ := h
    rw [root_ref] at e
    cases e3 : st[n]? with
    | none => rw [e3] at e; cases e
    | some ds =>
      rw [e3] at e
      cases e
      obtain ⟨vs, e4, e5⟩ := w.obj n a ds e2 e3
      exact ⟨a, vs, e1, e4, e5⟩
theorem Vw.of (r : RelS f Y W H σ ρ st) {h : RD} {d : D} {v : V} (x : HR f W H σ ρ v h) (e : view ρ st h = some d) : Vw f.T.K W H d v := by
  cases h with
  | d y => exact Vw.root r.wok x e
  | exn i => cases e
  | sl i =>
    obtain ⟨h1, _⟩ := x
    obtain ⟨F, O, hX, hs⟩ := r.own
    simp only [view] at e
    split at e
    · rename_i xs hx
      cases e
      obtain ⟨u, e1, e2⟩ := hs i _ hx
      rw [h1] at e1
      cases e1
      obtain ⟨a, vs, e3, e4, e5, e6⟩ := e2
      exact ⟨a, vs, e3, e5, e6⟩
    · cases e
  | sl2 i j =>
    obtain ⟨xss, a, as, b, h1, h2, h3, h4, h5⟩ := x
    obtain ⟨F, O, hX, hs⟩ := r.own
    simp only [view, h1] at e
    cases e7 : xss[j]? with
    | none => rw [e7] at e; cases e
    | some xs =>
      rw [e7] at e
      cases e
      obtain ⟨u, e1, e2⟩ := hs i _ h1
      rw [h2] at e1
      cases e1
      obtain ⟨a', as', e3, e4, e5, e6⟩ := e2
      cases e3
      rw [h3] at e5
      have e8 : as = as' := by
        have z := HO.lst.inj (Option.some.inj e5)
        exact List.map_inj_right (fun _ _ q => V.ref.inj q) |>.mp z
      subst e8
      obtain ⟨b', vs, g1, g2, g3⟩ := e6.get e7
      rw [h4] at g1
      cases g1
      exact ⟨b, vs, h5, g2, g3⟩
theorem HR.dat {h : RD} {d : D} {v : V} (x : HR f W H σ ρ v h) (e : dOf h = some d) : Dat f.T.K W H d v := by
  cases h with
  | d y => cases e; exact x
  | sl i => cases e
  | sl2 i j => cases e
  | exn i => cases e
end

/-- the reading of a mirror -/
def rdE (f : Fm) (EW : XW) (g : EF) : TE := fun σ H Q => ∃ W ρ st, RelS f [] W H σ ρ st ∧ match g ρ st with
  | .ok r st' => ∀ W' H' v, RelS f [] W' H' σ ρ st' → Step W H W' H' → HR f W' H' σ ρ v r → Q v H'
  | .exc c v st' => XO EW W H ρ st' c v
  | .bad => False
def ME (J : Jx) (e : Expr) (g : EF) : Prop := PE J.X e (rdE J.f J.EW g)
def rdT (f : Fm) (EW : XW) (g : TF) : TT := fun σ H Q => ∃ W ρ st, RelS f [] W H σ ρ st ∧ match g ρ st with
  | .ok b st' => ∀ W' H', RelS f [] W' H' σ ρ st' → Step W H W' H' → Q b H'
  | .exc c v st' => XO EW W H ρ st' c v
  | .bad => False
def MT (J : Jx) (e : Expr) (g : TF) : Prop := PT J.X e (rdT J.f J.EW g)
def MW (J : Jx) (e : Expr) (g : TF) : Prop := PW J.X e (rdT J.f J.EW g)
def rdA (f : Fm) (EW : XW) (g : AF) : TA := fun σ H Q => ∃ W ρ st, RelS f [] W H σ ρ st ∧ match g ρ st with
  | .ok ds st' => ∀ W' H' vs, RelS f [] W' H' σ ρ st' → Step W H W' H' → Dats f.T.K W' H' ds vs → Q vs H'
  | .exc c v st' => XO EW W H ρ st' c v
  | .bad => False
def MA (J : Jx) (es : List Expr) (g : AF) : Prop := PA J.X es (rdA J.f J.EW g) ∧ ∀ ρ st ds st', g ρ st = .ok ds st' → ds.length = es.length
inductive HRs (f : Fm) (W : Wd) (H : Hp) (σ : L2.St) (ρ : Env) : List V → List RD → Prop
  | nil : HRs f W H σ ρ [] []
  | cons {v : V} {vs : List V} {r : RD} {rs : List RD} : HR f W H σ ρ v r → HRs f W H σ ρ vs rs → HRs f W H σ ρ (v :: vs) (r :: rs)
def rdH (f : Fm) (EW : XW) (g : HF) : TA := fun σ H Q => ∃ W ρ st, RelS f [] W H σ ρ st ∧ match g ρ st with
  | .ok rs st' => ∀ W' H' vs, RelS f [] W' H' σ ρ st' → Step W H W' H' → HRs f W' H' σ ρ vs rs → Q vs H'
  | .exc c v st' => XO EW W H ρ st' c v
  | .bad => False
def MH (J : Jx) (es : List Expr) (g : HF) : Prop := PA J.X es (rdH J.f J.EW g)
/-- a fresh list of data -/
def rdL (f : Fm) (EW : XW) (g : LF) : TE := fun σ H Q => ∃ W ρ st, RelS f [] W H σ ρ st ∧ match g ρ st with
  | .ok ds st' => ∀ W' H' a vs, RelS f [a] W' H' σ ρ st' → Step W H W' H' → H a = none → H' a = some (.lst vs) → Dats f.T.K W' H' ds vs → Q (.ref a) H'
  | .exc c v st' => XO EW W H ρ st' c v
  | .bad => False
def ML (J : Jx) (e : Expr) (g : LF) : Prop := PE J.X e (rdL J.f J.EW g)

/-! ### values' operations -/
def Vws (K : PySem.W.Frag) (W : Wd) (H : Hp) : List D → List V → Prop
  | [], vs => vs = []
  | d :: ds, vs => ∃ v r, vs = v :: r ∧ Vw K W H d v ∧ Vws K W H ds r
/-- what an operation hands back: a datum -/
def Back (K : PySem.W.Frag) (W : Wd) (H : Hp) (st : Store) (d : D) (Q : VK) : Prop := ∀ W' H' v, Step W H W' H' → WOk K W' H' st → Dat K W' H' d v → Q v H'
def rD2 (K : PySem.W.Frag) (g : D → D → Option D) : R2 := fun x y H Q => ∃ W st dx dy d, WOk K W H st ∧ Vw K W H dx x ∧ Vw K W H dy y ∧ g dx dy = some d ∧ Back K W H st d Q
def rD1 (K : PySem.W.Frag) (g : D → Option D) : V → Hp → VK → Prop := fun x H Q => ∃ W st dx d, WOk K W H st ∧ Vw K W H dx x ∧ g dx = some d ∧ Back K W H st d Q
def rDs (K : PySem.W.Frag) (g : List D → Option D) : List V → Hp → VK → Prop := fun xs H Q => ∃ W st ds d, WOk K W H st ∧ Vws K W H ds xs ∧ g ds = some d ∧ Back K W H st d Q
def rDSl (K : PySem.W.Frag) : V → Option Int → Option Int → Hp → VK → Prop := fun x lo hi H Q => ∃ W st dx d, WOk K W H st ∧ Vw K W H dx x ∧ sliceD dx lo hi = some d ∧ Back K W H st d Q
def rDTr (K : PySem.W.Frag) : V → Hp → (Bool → Hp → Prop) → Prop := fun x H Q => ∃ W st dx b, WOk K W H st ∧ Vw K W H dx x ∧ truD dx = some b ∧ ∀ W' H', Step W H W' H' → WOk K W' H' st → Q b H'
theorem Back.imm {K : PySem.W.Frag} {W : Wd} {H : Hp} {st : Store} {d : D} {Q : VK} (q : Back K W H st d Q) (w : WOk K W H st) {v : V} (h : Dat K W H d v) : Q v H := q W H v (Step.refl W H) w h
theorem Back.tup {K : PySem.W.Frag} {W : Wd} {H : Hp} {st : Store} {ds : List D} {vs : List V} {Q : VK} (q : Back K W H st (.tup ds) Q) (w : WOk K W H st) (h : Dats K W H ds vs) {p : Addr} (hp : H p = none) : Q (.ref p) (upd H p (.tup vs)) := by
  have s := Step.laid w hp (.tup vs)
  exact q _ _ _ s (w.laid hp _) ⟨p, vs, rfl, .inl ⟨.inl rfl, upd_same⟩, Dats.per s.toPer _ _ h⟩
theorem Back.lst {K : PySem.W.Frag} {W : Wd} {H : Hp} {st : Store} {ds : List D} {vs : List V} {Q : VK} (q : Back K W H st (.lst ds) Q) (w : WOk K W H st) (h : Dats K W H ds vs) {p : Addr} (hp : H p = none) : Q (.ref p) (upd H p (.lst vs)) := by
  have s := Step.laid w hp (.lst vs)
  exact q _ _ _ s (w.laid hp _) ⟨p, vs, rfl, ⟨.inl rfl, upd_same⟩, Dats.per s.toPer _ _ h⟩

section
variable {J : Jx} {a b c e : Expr} {fa fb fc : EF} {pos : Pos}
theorem me_var (i : Nat) {x : Str} (hN : J.X.N[i]? = some x := by rfl) (hv : Vis J.X.env.scope x := by first | exact Or.inl rfl | exact Or.inr (Or.inl rfl) | exact Or.inr (Or.inr rfl)) (hd : (x == ("__debug__" : Str)) = false := by decide)
    (hcd : (x == ("__classdict__" : Str)) = false := by decide) : ME J (.Name x pos) (eVar i) := by
  refine PE.up (pe_var hN hv hd hcd) fun σ H Q h => ?_
  obtain ⟨W, ρ, st, r, h⟩ := h
  obtain ⟨F, O, hX, hs⟩ := r.own
  unfold eVar at h
  split at h
  · rename_i o r' st' hm
    split at hm
    · rename_i d hd
      cases hm
      obtain ⟨v, e1, e2⟩ := hs i _ hd
      exact ⟨v, e1, h W H v r (Step.refl ..) e2.2⟩
    · rename_i xs hd
      cases hm
      obtain ⟨v, e1, e2⟩ := hs i _ hd
      exact ⟨v, e1, h W H v r (Step.refl ..) ⟨e1, _, hd⟩⟩
    · rename_i xs hd
      cases hm
      obtain ⟨v, e1, e2⟩ := hs i _ hd
      exact ⟨v, e1, h W H v r (Step.refl ..) ⟨e1, _, hd⟩⟩
    · rename_i xs hd
      cases hm
      obtain ⟨v, e1, e2⟩ := hs i _ hd
      exact ⟨v, e1, h W H v r (Step.refl ..) ⟨e1, _, hd⟩⟩
    · cases hm
  · rename_i hm
    split at hm <;> cases hm
  · exact h.elim
theorem me_c {d : D} {v : V} (h : PE J.X e (tC v)) (hd : ∀ W H, Dat J.f.T.K W H d v) : ME J e (eC d) := by
  refine PE.up h fun σ H Q h => ?_
  obtain ⟨W, ρ, st, r, h⟩ := h
  exact h W H v r (Step.refl ..) (hd W H)
theorem me_int {i : Int} {j pos} : ME J (.Constant (.int i) j pos) (eC (.int i)) := me_c pe_int fun _ _ => rfl
theorem me_bl {i : Bool} {j pos} : ME J (.Constant (.bool i) j pos) (eC (.bl i)) := me_c pe_bl fun _ _ => rfl
theorem me_non {j pos} : ME J (.Constant .none j pos) (eC .non) := me_c pe_non fun _ _ => rfl
theorem me_str {x : Str} {j pos} : ME J (.Constant (.str x) j pos) (eC (.str x)) := me_c pe_str fun _ _ => rfl
/-- a constant of the module -/
theorem me_glob {x : Str} {d : D} {v : V} {u : Value} (hg : Gl J.X x) (hm : J.f.T.mg x = some u) (r : RelV v u) (hd : ∀ W H, Dat J.f.T.K W H d v) (hdb : (x == ("__debug__" : Str)) = false := by decide) : ME J (.Name x pos) (eC d) :=
  me_c (pe_glob (X := J.X) hg hm r hdb) hd

theorem rd_bind {σ : L2.St} {H : Hp} {Q : VK} {g : EF} (k : RD → Store → Out RD) {W : Wd} {ρ : Env} {st : Store} (r : RelS J.f [] W H σ ρ st)
    (h : match (g ρ st).bind k with | .ok r st' => ∀ W' H' v, RelS J.f [] W' H' σ ρ st' → Step W H W' H' → HR J.f W' H' σ ρ v r → Q v H' | .exc c v st' => XO J.EW W H ρ st' c v | .bad => False)
    {Q' : VK} (kk : ∀ x st1 W1 H1 v1, RelS J.f [] W1 H1 σ ρ st1 → Step W H W1 H1 → HR J.f W1 H1 σ ρ v1 x →
      (match k x st1 with | .ok r st' => ∀ W' H' v, RelS J.f [] W' H' σ ρ st' → Step W H W' H' → HR J.f W' H' σ ρ v r → Q v H' | .exc c v st' => XO J.EW W H ρ st' c v | .bad => False) → Q' v1 H1) : rdE J.f J.EW g σ H Q' := by
  refine ⟨W, ρ, st, r, ?_⟩
  cases e : g ρ st with
  | ok x st1 =>
    rw [e] at h
    exact fun W1 H1 v1 r1 s1 h1 => kk x st1 W1 H1 v1 r1 s1 h1 h
  | exc c v st1 => rw [e] at h; first | exact h | exact XO.per s1.toPer h | exact XO.per (s1.trans s2).toPer h | exact XO.per ((s1.trans s2).trans s3).toPer h
  | bad => rw [e] at h; exact h
theorem me_op {op : Operator} {g : D → D → Option D} (ho : OpR J.X (binaryOp op) (rD2 J.f.T.K g)) (ha : ME J a fa) (hb : ME J b fb) : ME J (.BinOp a op b pos) (eOp g fa fb) := by
  refine PE.up (pe_op ho ha hb) fun σ H Q h => ?_
  obtain ⟨W, ρ, st, r, h⟩ := h
  refine rd_bind _ r h fun x st1 W1 H1 v1 r1 s1 h1 h => ?_
  refine ⟨W1, ρ, st1, r1, ?_⟩
  cases e : fb ρ st1 with
  | exc c v st2 => simp only [e, Out.bind_exc] at h; first | exact h | exact XO.per s1.toPer h | exact XO.per (s1.trans s2).toPer h | exact XO.per ((s1.trans s2).trans s3).toPer h
  | bad => simp only [e, Out.bind_bad] at h
  | ok y st2 =>
    simp only [e, Out.bind_ok] at h
    intro W2 H2 v2 r2 s2 h2
    cases e1 : view ρ st2 x with
    | none => simp only [e1] at h
    | some dx =>
      cases e2 : view ρ st2 y with
      | none => simp only [e1, e2] at h
      | some dy =>
        simp only [e1, e2] at h
        cases e3 : g dx dy with
        | none => simp only [e3, Option.map_none, Out.of_none] at h
        | some d =>
          simp only [e3, Option.map_some, Out.of_some] at h
          exact ⟨W2, st2, dx, dy, d, r2.wok, Vw.of r2 (h1.step r1 s2) e1, Vw.of r2 h2 e2, e3, fun W3 H3 v3 s3 w3 hd => h W3 H3 v3 (r2.step s3 w3) ((s1.trans s2).trans s3) hd⟩
theorem me_cmp {op : CmpOp} {g : D → D → Option D} (ho : OpR J.X (compareOp op) (rD2 J.f.T.K g)) (ha : ME J a fa) (hb : ME J b fb) (hm : behindInMarks op b = false) : ME J (.Compare a [op] [b] pos) (eOp g fa fb) := by
  refine PE.up (pe_cmpR ho ha hb hm) fun σ H Q h => ?_
  obtain ⟨W, ρ, st, r, h⟩ := h
  refine rd_bind _ r h fun x st1 W1 H1 v1 r1 s1 h1 h => ?_
  refine ⟨W1, ρ, st1, r1, ?_⟩
  cases e : fb ρ st1 with
  | exc c v st2 => simp only [e, Out.bind_exc] at h; first | exact h | exact XO.per s1.toPer h | exact XO.per (s1.trans s2).toPer h | exact XO.per ((s1.trans s2).trans s3).toPer h
  | bad => simp only [e, Out.bind_bad] at h
  | ok y st2 =>
    simp only [e, Out.bind_ok] at h
    intro W2 H2 v2 r2 s2 h2
    cases e1 : view ρ st2 x with
    | none => simp only [e1] at h
    | some dx =>
      cases e2 : view ρ st2 y with
      | none => simp only [e1, e2] at h
      | some dy =>
        simp only [e1, e2] at h
        cases e3 : g dx dy with
        | none => simp only [e3, Option.map_none, Out.of_none] at h
        | some d =>
          simp only [e3, Option.map_some, Out.of_some] at h
          exact ⟨W2, st2, dx, dy, d, r2.wok, Vw.of r2 (h1.step r1 s2) e1, Vw.of r2 h2 e2, e3, fun W3 H3 v3 s3 w3 hd => h W3 H3 v3 (r2.step s3 w3) ((s1.trans s2).trans s3) hd⟩
theorem me_un {op : UnaryOp} {g : D → Option D} (ho : UnR J.X (unaryOp op) (rD1 J.f.T.K g)) (ha : ME J a fa) : ME J (.UnaryOp op a pos) (eUn g fa) := by
  refine PE.up (pe_un ho ha) fun σ H Q h => ?_
  obtain ⟨W, ρ, st, r, h⟩ := h
  refine rd_bind _ r h fun x st1 W1 H1 v1 r1 s1 h1 h => ?_
  cases e1 : view ρ st1 x with
  | none => simp only [e1] at h
  | some dx =>
    simp only [e1] at h
    cases e3 : g dx with
    | none => simp only [e3, Option.map_none, Out.of_none] at h
    | some d =>
      simp only [e3, Option.map_some, Out.of_some] at h
      exact ⟨W1, st1, dx, d, r1.wok, Vw.of r1 h1 e1, e3, fun W3 H3 v3 s3 w3 hd => h W3 H3 v3 (r1.step s3 w3) (s1.trans s3) hd⟩
end
end DL

/-! DLF: further rules of expressions. -/
namespace DL
open PySem L2 PySem.Spec PyProof.Rows

section
variable {f : Fm} {W W1 W2 : Wd} {H H1 : Hp} {σ : L2.St} {ρ : Env} {st st' : Store} {a : Addr}
theorem Step.fr {K : PySem.W.Frag} (w : WOk K W H st) (w1 : WOk K W1 H1 st') (s : Step W H W1 H1) {a : Addr} (h : H1 a = none) : H a = none := Step.fresh s w.zok w1 h
/-- a fresh cell that no frame of ours held may be frozen -/
theorem Step.frz (s : Step W H W1 H1) (h : H a = none) (p : Per W1 H1 W2 H1) (e : W2.φ = W1.φ) (z : ∀ b, W2.Z b → W1.Z b ∨ b ∈ [a]) : Step W H W2 H1 := by
  refine ⟨s.toPer.trans p, fun b h1 h2 h3 => ?_⟩
  obtain ⟨k1, k2, k3⟩ := s.keep b h1 h2 h3
  refine ⟨k1, fun q => ?_, by rw [e]; exact k3⟩
  rcases z b q with q | q
  · exact k2 q
  · rw [List.mem_singleton] at q
    subst q
    exact h1 h
theorem Step.bx (s : Step W H W1 H1) (h : H a = none) : Step W H (W1.bx a) H1 := by
  refine ⟨s.toPer.trans (Per.bx W1 H1 a), fun b h1 h2 h3 => ?_⟩
  obtain ⟨k1, k2, k3⟩ := s.keep b h1 h2 h3
  refine ⟨k1, k2, fun q => ?_⟩
  rcases List.mem_append.mp q with q | q
  · exact k3 q
  · rw [List.mem_singleton] at q
    subst q
    exact h1 h
/-- an own cell becomes a list of the store -/
theorem RelS.box (r : RelS f [a] W H σ ρ st) {vs : List V} {ds : List D} (ha : H a = some (.lst vs)) (hd : Dats f.T.K W H ds vs) : RelS f [] (W.bx a) H σ ρ (st ++ [ds]) ∧ (W.bx a).φ[st.length]? = some a := by
  obtain ⟨F, O, hX, h⟩ := r.own
  have ma : a ∈ F ρ.length := by rw [hX]; exact List.mem_singleton.mpr rfl
  obtain ⟨o1, o2, o3, o4⟩ := O.ok _ a ma
  have p := Per.bx W H a
  refine ⟨⟨r.w0, r.wok.bx ha o3 o4 hd, ⟨r.since.toPer.trans p, fun b h1 h2 h3 => ?_⟩, r.len, fun j => if j = ρ.length then [] else F j, ⟨fun j b hb => ?_, (O.drop _).nd, (O.drop _).ap⟩, by simp, fun j sl e => ?_⟩, ?_⟩
  · obtain ⟨k1, k2, k3⟩ := r.since.keep b h1 h2 h3
    refine ⟨k1, k2, fun q => ?_⟩
    rcases List.mem_append.mp q with q | q
    · exact k3 q
    · rw [List.mem_singleton] at q
      subst q
      exact h1 o1
  · by_cases e2 : j = ρ.length
    · simp only [e2, if_true] at hb; cases hb
    · simp only [e2, if_false] at hb
      obtain ⟨h1, h2, h3, h4⟩ := O.ok j b hb
      refine ⟨h1, h2, h3, fun q => ?_⟩
      rcases List.mem_append.mp q with q | q
      · exact h4 q
      · rw [List.mem_singleton] at q
        subst q
        exact e2 (O.ap _ _ _ hb ma)
  · have hl : j < ρ.length := (List.getElem?_eq_some_iff.mp e).1
    obtain ⟨u, e3, e4⟩ := h j sl e
    refine ⟨u, e3, ?_⟩
    simp only [show ¬ j = ρ.length by omega, if_false]
    exact e4.per p fun _ _ => rfl
  · show (W.φ ++ [a])[st.length]? = some a
    rw [List.getElem?_append_right (by rw [r.wok.len]; exact Nat.le_refl _), r.wok.len]
    simp
end
section
variable {J : Jx} {a b c e : Expr} {fa fb fc : EF} {pos : Pos}
theorem frz_read {l : LF} {σ : L2.St} {H : Hp} {Q : VK} (q : rdE J.f J.EW (eLst l) σ H Q) : rdL J.f J.EW l σ H Q := by
  obtain ⟨W, ρ, st, r, q⟩ := q
  refine ⟨W, ρ, st, r, ?_⟩
  unfold eLst at q
  cases e : l ρ st with
  | exc c v st2 => simp only [e, Out.bind_exc] at q; first | exact q | exact XO.per s1.toPer q | exact XO.per (s1.trans s2).toPer q | exact XO.per ((s1.trans s2).trans s3).toPer q
  | bad => simp only [e, Out.bind_bad] at q
  | ok ds st1 =>
    simp only [e, Out.bind_ok] at q
    intro W1 H1 p vs r1 s1 hn hp hd
    obtain ⟨W2, r2, p2, z2, e2, z3⟩ := r1.frzX
    exact q W2 H1 _ r2 (s1.frz hn p2 e2 z3) ⟨p, vs, rfl, ⟨z2 p (List.mem_singleton.mpr rfl), hp⟩, Dats.per p2 _ _ hd⟩
theorem me_frz {l : LF} (h : ML J e l) : ME J e (eLst l) := PE.up h fun _ _ _ q => frz_read q
theorem me_box {l : LF} (h : ML J e l) : ME J e (eBox l) := by
  refine PE.up h fun σ H Q q => ?_
  obtain ⟨W, ρ, st, r, q⟩ := q
  refine ⟨W, ρ, st, r, ?_⟩
  unfold eBox at q
  cases e : l ρ st with
  | exc c v st2 => simp only [e, Out.bind_exc] at q; first | exact q | exact XO.per s1.toPer q | exact XO.per (s1.trans s2).toPer q | exact XO.per ((s1.trans s2).trans s3).toPer q
  | bad => simp only [e, Out.bind_bad] at q
  | ok ds st1 =>
    simp only [e, Out.bind_ok] at q
    intro W1 H1 p vs r1 s1 hn hp hd
    obtain ⟨r2, g⟩ := r1.box hp hd
    exact q _ H1 _ r2 (s1.bx hn) ⟨p, rfl, g⟩
/-! arguments -/
theorem ma_nil : MA J [] aNil := by
  refine ⟨?_, fun ρ st ds st' h => by cases h; rfl⟩
  refine PA.up pa_nil fun σ H Q q => ?_
  obtain ⟨W, ρ, st, r, q⟩ := q
  exact q W H [] r (Step.refl ..) rfl
theorem ma_cons {es : List Expr} {g : AF} (ha : ME J e fa) (hr : MA J es g) (hs : starEach (e :: es) J.X.env = (false, eval e J.X.env) :: starEach es J.X.env := by rfl) : MA J (e :: es) (aCons fa g) := by
  refine ⟨?_, fun ρ st ds st' q => ?_⟩
  rotate_left
  · unfold aCons at q
    cases e1 : fa ρ st with
    | exc c v st2 => rw [e1] at q; cases q
    | bad => rw [e1] at q; cases q
    | ok x st1 =>
      simp only [e1, Out.bind_ok] at q
      cases e2 : dOf x with
      | none => simp only [e2] at q; cases q
      | some d =>
        simp only [e2] at q
        cases e3 : g ρ st1 with
        | exc c v st2 => rw [e3] at q; cases q
        | bad => rw [e3] at q; cases q
        | ok ds' st2 =>
          simp only [e3, Out.bind_ok] at q
          cases q
          rw [List.length_cons, List.length_cons, hr.2 _ _ _ _ e3]
  refine PA.up (pa_cons ha hr.1 hs) fun σ H Q h => ?_
  obtain ⟨W, ρ, st, r, h⟩ := h
  unfold aCons at h
  refine ⟨W, ρ, st, r, ?_⟩
  cases e1 : fa ρ st with
  | exc c v st2 => simp only [e1, Out.bind_exc] at h; first | exact h | exact XO.per s1.toPer h | exact XO.per (s1.trans s2).toPer h | exact XO.per ((s1.trans s2).trans s3).toPer h
  | bad => simp only [e1, Out.bind_bad] at h
  | ok x st1 =>
    simp only [e1, Out.bind_ok] at h
    intro W1 H1 v1 r1 s1 h1
    cases e2 : dOf x with
    | none => simp only [e2] at h
    | some d =>
      simp only [e2] at h
      refine ⟨W1, ρ, st1, r1, ?_⟩
      cases e3 : g ρ st1 with
      | exc c v st2 => simp only [e3, Out.bind_exc] at h; first | exact h | exact XO.per s1.toPer h | exact XO.per (s1.trans s2).toPer h | exact XO.per ((s1.trans s2).trans s3).toPer h
      | bad => simp only [e3, Out.bind_bad] at h
      | ok ds st2 =>
        simp only [e3, Out.bind_ok] at h
        intro W2 H2 vs r2 s2 h2
        exact h W2 H2 (v1 :: vs) r2 (s1.trans s2) (Dats.cons (Dat.per s2.toPer _ _ (h1.dat e2)) h2)
theorem mh_nil : MH J [] hNil := by
  refine PA.up pa_nil fun σ H Q q => ?_
  obtain ⟨W, ρ, st, r, q⟩ := q
  exact q W H [] r (Step.refl ..) .nil
theorem HRs.step {f : Fm} {Y : List Addr} {W W' : Wd} {H H' : Hp} {σ : L2.St} {ρ : Env} {st : Store} (r : RelS f Y W H σ ρ st) (s : Step W H W' H') {vs : List V} {rs : List RD} (h : HRs f W H σ ρ vs rs) : HRs f W' H' σ ρ vs rs := by
  induction h with
  | nil => exact .nil
  | cons h _ ih => exact .cons (h.step r s) ih
theorem mh_cons {es : List Expr} {g : HF} (ha : ME J e fa) (hr : MH J es g) (hs : starEach (e :: es) J.X.env = (false, eval e J.X.env) :: starEach es J.X.env := by rfl) : MH J (e :: es) (hCons fa g) := by
  refine PA.up (pa_cons ha hr hs) fun σ H Q h => ?_
  obtain ⟨W, ρ, st, r, h⟩ := h
  unfold hCons at h
  refine ⟨W, ρ, st, r, ?_⟩
  cases e1 : fa ρ st with
  | exc c v st2 => simp only [e1, Out.bind_exc] at h; first | exact h | exact XO.per s1.toPer h | exact XO.per (s1.trans s2).toPer h | exact XO.per ((s1.trans s2).trans s3).toPer h
  | bad => simp only [e1, Out.bind_bad] at h
  | ok x st1 =>
    simp only [e1, Out.bind_ok] at h
    intro W1 H1 v1 r1 s1 h1
    refine ⟨W1, ρ, st1, r1, ?_⟩
    cases e3 : g ρ st1 with
    | exc c v st2 => simp only [e3, Out.bind_exc] at h; first | exact h | exact XO.per s1.toPer h | exact XO.per (s1.trans s2).toPer h | exact XO.per ((s1.trans s2).trans s3).toPer h
    | bad => simp only [e3, Out.bind_bad] at h
    | ok ds st2 =>
      simp only [e3, Out.bind_ok] at h
      intro W2 H2 vs r2 s2 h2
      exact h W2 H2 (v1 :: vs) r2 (s1.trans s2) (.cons (h1.step r1 s2) h2)
theorem Vws.of {f : Fm} {Y : List Addr} {W : Wd} {H : Hp} {σ : L2.St} {ρ : Env} {st : Store} (r : RelS f Y W H σ ρ st) {vs : List V} {rs : List RD} (h : HRs f W H σ ρ vs rs) : ∀ {ds : List D}, views ρ st rs = some ds → Vws f.T.K W H ds vs := by
  induction h with
  | nil => intro ds e; cases e; rfl
  | @cons v vs x xs h _ ih =>
    intro ds e
    unfold views at e
    cases e1 : view ρ st x with
    | none => simp only [e1] at e; cases e
    | some d =>
      cases e2 : views ρ st xs with
      | none => simp only [e1, e2] at e; cases e
      | some es =>
        simp only [e1, e2] at e
        cases e
        exact ⟨v, vs, rfl, Vw.of r h e1, ih e2⟩
theorem rdB {σ : L2.St} {H : Hp} {Q : VK} {g : List D → Option D} {h : HF} (q : rdE J.f J.EW (eB g h) σ H Q) : tCB (rDs J.f.T.K g) (rdH J.f J.EW h) σ H Q := by
  obtain ⟨W, ρ, st, r, q⟩ := q
  unfold eB at q
  refine ⟨W, ρ, st, r, ?_⟩
  cases e1 : h ρ st with
  | exc c v st2 => simp only [e1, Out.bind_exc] at q; first | exact q | exact XO.per s1.toPer q | exact XO.per (s1.trans s2).toPer q | exact XO.per ((s1.trans s2).trans s3).toPer q
  | bad => simp only [e1, Out.bind_bad] at q
  | ok rs st1 =>
    simp only [e1, Out.bind_ok] at q
    intro W1 H1 vs r1 s1 h1
    cases e2 : views ρ st1 rs with
    | none => simp only [e2] at q
    | some ds =>
      simp only [e2] at q
      cases e3 : g ds with
      | none => simp only [e3, Option.map_none, Out.of_none] at q
      | some d =>
        simp only [e3, Option.map_some, Out.of_some] at q
        exact ⟨W1, st1, ds, d, r1.wok, Vws.of r1 h1 e2, e3, fun W2 H2 v s2 w2 hd => q W2 H2 v (r1.step s2 w2) (s1.trans s2) hd⟩
/-- a built-in function, a built-in type -/
theorem me_b {id : String} {x : Str} {p : Pos} {es : List Expr} {g : List D → Option D} {h : HF} (hc : CallR J.X (.builtin id) (rDs J.f.T.K g)) (hg : Gl J.X x) (hm : J.f.T.mg x = none) (hv : bootBuiltins x = some (.builtin id)) (ha : MH J (e :: es) h)
    (hn : x ≠ "__name__" := by decide) (hdb : (x == ("__debug__" : Str)) = false := by decide) (he : starEach (e :: es) J.X.env = (false, eval e J.X.env) :: starEach es J.X.env := by rfl) (hpl : (backTo pos (starEach es J.X.env)).any (·.1) = false := by rfl) :
    ME J (.Call (.Name x p) (e :: es) [] pos) (eB g h) := PE.up (pe_callB hc hg hm hv ha hn hdb he hpl) fun _ _ _ q => rdB q
theorem me_ty {T : String} {x : Str} {p : Pos} {es : List Expr} {g : List D → Option D} {h : HF} (hc : CallR J.X (.type T) (rDs J.f.T.K g)) (hg : Gl J.X x) (hm : J.f.T.mg x = none) (hv : bootBuiltins x = some (.type T)) (ha : MH J (e :: es) h)
    (hn : x ≠ "__name__" := by decide) (hdb : (x == ("__debug__" : Str)) = false := by decide) (he : starEach (e :: es) J.X.env = (false, eval e J.X.env) :: starEach es J.X.env := by rfl) (hpl : (backTo pos (starEach es J.X.env)).any (·.1) = false := by rfl) :
    ME J (.Call (.Name x p) (e :: es) [] pos) (eB g h) := PE.up (pe_callTy hc hg hm hv ha hn hdb he hpl) fun _ _ _ q => rdB q
/-! displays -/
theorem me_tup {es : List Expr} {g : AF} {x1} (ha : MA J es g) : ME J (.Tuple es x1 pos) (eTup g) := by
  refine PE.up (pe_tup ha.1) fun σ H Q q => ?_
  obtain ⟨W, ρ, st, r, q⟩ := q
  unfold eTup at q
  refine ⟨W, ρ, st, r, ?_⟩
  cases e1 : g ρ st with
  | exc c v st2 => simp only [e1, Out.bind_exc] at q; first | exact q | exact XO.per s1.toPer q | exact XO.per (s1.trans s2).toPer q | exact XO.per ((s1.trans s2).trans s3).toPer q
  | bad => simp only [e1, Out.bind_bad] at q
  | ok ds st1 =>
    simp only [e1, Out.bind_ok] at q
    intro W1 H1 vs r1 s1 h1
    split at q
    · rename_i o r' st' hz
      split at hz
      · rename_i hl
        cases hz
        refine ⟨by rw [← h1.len]; exact hl, fun p hp => ?_⟩
        have s := Step.laid r1.wok hp (.tup vs)
        have w := r1.wok.laid hp (.tup vs)
        exact q _ _ _ (r1.step s w) (s1.trans s) ⟨p, vs, rfl, .inl ⟨.inl rfl, upd_same⟩, Dats.per s.toPer _ _ h1⟩
      · cases hz
    · rename_i hz
      split at hz <;> cases hz
    · exact q.elim
theorem ml_disp {es : List Expr} {g : AF} (ha : MA J es g) : ML J (.List es pos) (lDisp g) := by
  refine PE.up (pe_lst ha.1) fun σ H Q q => ?_
  obtain ⟨W, ρ, st, r, q⟩ := q
  unfold lDisp at q
  refine ⟨W, ρ, st, r, ?_⟩
  cases e1 : g ρ st with
  | exc c v st2 => simp only [e1, Out.bind_exc] at q; first | exact q | exact XO.per s1.toPer q | exact XO.per (s1.trans s2).toPer q | exact XO.per ((s1.trans s2).trans s3).toPer q
  | bad => simp only [e1, Out.bind_bad] at q
  | ok ds st1 =>
    simp only [e1, Out.bind_ok] at q
    intro W1 H1 vs r1 s1 h1
    split at q
    · rename_i o r' st' hz
      split at hz
      · rename_i hl
        cases hz
        refine ⟨by rw [← h1.len]; exact hl, fun p hp => ?_⟩
        have w := r1.wok.own hp (.lst vs)
        exact q _ _ p vs (r1.claim hp w) (s1.trans (Step.own r1.wok hp _)) (Step.fr r.wok r1.wok s1 hp) upd_same (Dats.per (Step.own r1.wok hp _).toPer _ _ h1)
      · cases hz
    · rename_i hz
      split at hz <;> cases hz
    · exact q.elim
/-! tests -/
theorem mt_val (h : ME J e fa) (he : ∀ whole, isTrue e J.X.env whole = (do let v ← whole; standAt e.pos; holding [v] (truthy v)) := by intro _; rfl) : MT J e (tVal fa) := by
  refine PT.up (pt_val h he) fun σ H Q q => ?_
  obtain ⟨W, ρ, st, r, q⟩ := q
  unfold tVal at q
  refine ⟨W, ρ, st, r, ?_⟩
  cases e1 : fa ρ st with
  | exc c v st2 => simp only [e1, Out.bind_exc] at q; first | exact q | exact XO.per s1.toPer q | exact XO.per (s1.trans s2).toPer q | exact XO.per ((s1.trans s2).trans s3).toPer q
  | bad => simp only [e1, Out.bind_bad] at q
  | ok x st1 =>
    simp only [e1, Out.bind_ok] at q
    intro W1 H1 v1 r1 s1 h1
    split at q
    · rename_i o r' st' hz
      split at hz
      · cases hz
        exact ⟨_, show v1 = _ from h1, q W1 H1 r1 s1⟩
      · cases hz
    · rename_i hz
      split at hz <;> cases hz
    · exact q.elim
/-- the wish behind an operation, read as a test -/
theorem Back.bool {K : PySem.W.Frag} {W : Wd} {H : Hp} {st : Store} {d : D} {Q : Bool → Hp → Prop} {k : Bool} (e : d = .bl k) (h : ∀ W' H', Step W H W' H' → WOk K W' H' st → Q k H') : Back K W H st d (fun x H' => ∃ k, x = .bl k ∧ Q k H') := by
  subst e
  intro W' H' v s w hd
  exact ⟨k, hd, h W' H' s w⟩
theorem mt_cmp {op : CmpOp} {g : D → D → Option D} (ho : OpR J.X (compareOp op) (rD2 J.f.T.K g)) (ha : ME J a fa) (hb : ME J b fb) (hm : behindInMarks op b = false) : MT J (.Compare a [op] [b] pos) (tVal (eOp g fa fb)) := by
  refine PT.up (pt_cmpR ho ha hb hm) fun σ H Q h => ?_
  obtain ⟨W, ρ, st, r, h⟩ := h
  unfold tVal eOp at h
  refine ⟨W, ρ, st, r, ?_⟩
  cases e0 : fa ρ st with
  | exc c v st2 => simp only [e0, Out.bind_exc] at h; first | exact h | exact XO.per s1.toPer h | exact XO.per (s1.trans s2).toPer h | exact XO.per ((s1.trans s2).trans s3).toPer h
  | bad => simp only [e0, Out.bind_bad] at h
  | ok x st1 =>
  simp only [e0, Out.bind_ok] at h
  intro W1 H1 v1 r1 s1 h1
  refine ⟨W1, ρ, st1, r1, ?_⟩
  cases e : fb ρ st1 with
  | exc c v st2 => simp only [e, Out.bind_exc] at h; first | exact h | exact XO.per s1.toPer h | exact XO.per (s1.trans s2).toPer h | exact XO.per ((s1.trans s2).trans s3).toPer h
  | bad => simp only [e, Out.bind_bad] at h
  | ok y st2 =>
    simp only [e, Out.bind_ok] at h
    intro W2 H2 v2 r2 s2 h2
    cases e1 : view ρ st2 x with
    | none => simp only [e1, Out.bind_bad] at h
    | some dx =>
      cases e2 : view ρ st2 y with
      | none => simp only [e1, e2, Out.bind_bad] at h
      | some dy =>
        simp only [e1, e2] at h
        cases e3 : g dx dy with
        | none => simp only [e3, Option.map_none, Out.of_none, Out.bind_bad] at h
        | some d =>
          simp only [e3, Option.map_some, Out.of_some, Out.bind_ok] at h
          split at h
          · rename_i o r' st' hz
            split at hz
            · rename_i k hk
              cases hz
              cases hk
              exact ⟨W2, st2, dx, dy, _, r2.wok, Vw.of r2 (h1.step r1 s2) e1, Vw.of r2 h2 e2, e3, Back.bool rfl fun W3 H3 s3 w3 => h W3 H3 (r2.step s3 w3) ((s1.trans s2).trans s3)⟩
            · cases hz
          · rename_i hz
            split at hz <;> cases hz
          · exact h.elim
/-- truth by the look -/
theorem tru_of {K : PySem.W.Frag} {W : Wd} {H : Hp} {st : Store} {d : D} {v : V} {b : Bool} (w : WOk K W H st) (h : Vw K W H d v) (e : truD d = some b) (hz : ∀ x, d = .str x → x.length ≤ sizeLine) : TruV K v H b := by
  cases d with
  | non => cases e; rw [show v = _ from h]; rfl
  | bl k => cases e; rw [show v = _ from h]; rfl
  | int i => cases e; rw [show v = _ from h]; rfl
  | str x =>
    simp only [truD] at e
    by_cases hx : x.cps.size ≤ szL
    · rw [if_pos hx] at e
      cases e
      rw [show v = _ from h]
      refine ⟨hz x rfl, ?_⟩
      show (x.length != 0) = ((x.length : Int) != 0)
      cases hx : x.length with
      | zero => rfl
      | succ n => simp; omega
    · rw [if_neg hx] at e
      cases e
  | tup ds =>
    cases e
    obtain ⟨a, vs, e1, e2, e3⟩ := h
    subst e1
    refine .inr (.inl ⟨vs, e2.sq, ?_⟩)
    have := e3.len
    cases ds <;> cases vs <;> simp_all
  | lst ds =>
    cases e
    obtain ⟨a, vs, e1, e2, e3⟩ := h
    subst e1
    refine .inl ⟨vs, .of e2, ?_⟩
    have := e3.len
    cases ds <;> cases vs <;> simp_all
  | ref n => exact h.elim
  | dic _ _ => cases e
  | scr ns =>
    cases e
    obtain ⟨a, e1, e2⟩ := h
    subst e1
    refine .inl ⟨_, e2.sq, ?_⟩
    cases ns <;> simp
theorem mt_tru (h : ME J e fa) (he : ∀ whole, isTrue e J.X.env whole = (do let v ← whole; standAt e.pos; holding [v] (truthy v)) := by intro _; rfl) : MT J e (tTru fa) := by
  refine PT.up (pt_truth h he) fun σ H Q q => ?_
  obtain ⟨W, ρ, st, r, q⟩ := q
  unfold tTru at q
  refine ⟨W, ρ, st, r, ?_⟩
  cases e1 : fa ρ st with
  | exc c v st2 => simp only [e1, Out.bind_exc] at q; first | exact q | exact XO.per s1.toPer q | exact XO.per (s1.trans s2).toPer q | exact XO.per ((s1.trans s2).trans s3).toPer q
  | bad => simp only [e1, Out.bind_bad] at q
  | ok x st1 =>
    simp only [e1, Out.bind_ok] at q
    intro W1 H1 v1 r1 s1 h1
    cases e2 : view ρ st1 x with
    | none => simp only [e2] at q
    | some d =>
      simp only [e2] at q
      cases e3 : truD d with
      | none => simp only [e3, Out.of_none] at q
      | some b =>
        simp only [e3, Out.of_some] at q
        refine ⟨b, tru_of r1.wok (Vw.of r1 h1 e2) e3 (fun x ex => ?_), q W1 H1 r1 s1⟩
        subst ex
        simp only [truD] at e3
        split at e3
        · assumption
        · cases e3
theorem mt_not {g : TF} (h : MT J a g) : MT J (.UnaryOp .Not a pos) (tNot g) := by
  refine PT.up (pt_not h) fun σ H Q q => ?_
  obtain ⟨W, ρ, st, r, q⟩ := q
  unfold DL.tNot at q
  refine ⟨W, ρ, st, r, ?_⟩
  cases e1 : g ρ st with
  | exc c v st2 => simp only [e1, Out.bind_exc] at q; first | exact q | exact XO.per s1.toPer q | exact XO.per (s1.trans s2).toPer q | exact XO.per ((s1.trans s2).trans s3).toPer q
  | bad => simp only [e1, Out.bind_bad] at q
  | ok x st1 =>
    simp only [e1, Out.bind_ok] at q
    exact q
section
variable {g g' : TF} {rest : List Expr}
theorem mw_and1 (h : MT J a g) : MW J (.BoolOp .And [a] pos) g := pw_and1 h
theorem mw_or1 (h : MT J a g) : MW J (.BoolOp .Or [a] pos) g := pw_or1 h
theorem mw_and (h : MT J a g) (h' : MW J (.BoolOp .And (b :: rest) pos) g') : MW J (.BoolOp .And (a :: b :: rest) pos) (DL.tAnd g g') := by
  refine PW.up (pw_and h h') fun σ H Q q => ?_
  obtain ⟨W, ρ, st, r, q⟩ := q
  unfold DL.tAnd at q
  refine ⟨W, ρ, st, r, ?_⟩
  cases e1 : g ρ st with
  | exc c v st2 => simp only [e1, Out.bind_exc] at q; first | exact q | exact XO.per s1.toPer q | exact XO.per (s1.trans s2).toPer q | exact XO.per ((s1.trans s2).trans s3).toPer q
  | bad => simp only [e1, Out.bind_bad] at q
  | ok x st1 =>
    simp only [e1, Out.bind_ok] at q
    intro W1 H1 r1 s1
    cases x with
    | false => exact q W1 H1 r1 s1
    | true =>
      refine ⟨W1, ρ, st1, r1, ?_⟩
      simp only [if_true] at q
      cases e3 : g' ρ st1 with
      | exc c v st2 => simp only [e3] at q; first | exact q | exact XO.per s1.toPer q | exact XO.per (s1.trans s2).toPer q | exact XO.per ((s1.trans s2).trans s3).toPer q
      | bad => simp only [e3] at q
      | ok y st2 =>
        simp only [e3] at q
        exact fun W2 H2 r2 s2 => q W2 H2 r2 (s1.trans s2)
theorem mw_or (h : MT J a g) (h' : MW J (.BoolOp .Or (b :: rest) pos) g') : MW J (.BoolOp .Or (a :: b :: rest) pos) (DL.tOr g g') := by
  refine PW.up (pw_or h h') fun σ H Q q => ?_
  obtain ⟨W, ρ, st, r, q⟩ := q
  unfold DL.tOr at q
  refine ⟨W, ρ, st, r, ?_⟩
  cases e1 : g ρ st with
  | exc c v st2 => simp only [e1, Out.bind_exc] at q; first | exact q | exact XO.per s1.toPer q | exact XO.per (s1.trans s2).toPer q | exact XO.per ((s1.trans s2).trans s3).toPer q
  | bad => simp only [e1, Out.bind_bad] at q
  | ok x st1 =>
    simp only [e1, Out.bind_ok] at q
    intro W1 H1 r1 s1
    cases x with
    | true => exact q W1 H1 r1 s1
    | false =>
      refine ⟨W1, ρ, st1, r1, ?_⟩
      simp only [if_false, Bool.false_eq_true] at q
      cases e3 : g' ρ st1 with
      | exc c v st2 => simp only [e3] at q; first | exact q | exact XO.per s1.toPer q | exact XO.per (s1.trans s2).toPer q | exact XO.per ((s1.trans s2).trans s3).toPer q
      | bad => simp only [e3] at q
      | ok y st2 =>
        simp only [e3] at q
        exact fun W2 H2 r2 s2 => q W2 H2 r2 (s1.trans s2)
theorem mt_w (h : MW J e g) : MT J e g := PW.pt h
/-! the same as values -/
theorem me_one {op} (h : ME J a fa) : ME J (.BoolOp op [a] pos) fa := pe_one h
theorem me_and (ha : ME J a fa) (hb : ME J (.BoolOp .And (b :: rest) pos) fb) : ME J (.BoolOp .And (a :: b :: rest) pos) (eAnd fa fb) := by
  refine PE.up (pe_and ha hb) fun σ H Q q => ?_
  obtain ⟨W, ρ, st, r, q⟩ := q
  refine rd_bind _ r q fun x st1 W1 H1 v1 r1 s1 h1 q => ?_
  split at q
  · rename_i o r' st' hz
    split at hz
    · refine ⟨true, h1, ?_⟩
      rw [if_pos rfl]
      exact ⟨W1, ρ, st1, r1, by rw [hz]; exact fun W2 H2 v r2 s2 hd => q W2 H2 v r2 (s1.trans s2) hd⟩
    · cases hz
      refine ⟨false, h1, ?_⟩
      rw [if_neg (by simp)]
      exact q W1 H1 _ r1 s1 rfl
    · cases hz
  · rename_i hz
    split at hz
    · refine ⟨true, h1, ?_⟩
      rw [if_pos rfl]
      exact ⟨W1, ρ, st1, r1, by rw [hz]; exact XO.per s1.toPer q⟩
    · cases hz
    · cases hz
  · exact q.elim
theorem me_or (ha : ME J a fa) (hb : ME J (.BoolOp .Or (b :: rest) pos) fb) : ME J (.BoolOp .Or (a :: b :: rest) pos) (eOr fa fb) := by
  refine PE.up (pe_or ha hb) fun σ H Q q => ?_
  obtain ⟨W, ρ, st, r, q⟩ := q
  refine rd_bind _ r q fun x st1 W1 H1 v1 r1 s1 h1 q => ?_
  split at q
  · rename_i o r' st' hz
    split at hz
    · cases hz
      refine ⟨true, h1, ?_⟩
      rw [if_pos rfl]
      exact q W1 H1 _ r1 s1 rfl
    · refine ⟨false, h1, ?_⟩
      rw [if_neg (by simp)]
      exact ⟨W1, ρ, st1, r1, by rw [hz]; exact fun W2 H2 v r2 s2 hd => q W2 H2 v r2 (s1.trans s2) hd⟩
    · cases hz
  · rename_i hz
    split at hz
    · cases hz
    · refine ⟨false, h1, ?_⟩
      rw [if_neg (by simp)]
      exact ⟨W1, ρ, st1, r1, by rw [hz]; exact XO.per s1.toPer q⟩
    · cases hz
  · exact q.elim
theorem me_not (ha : ME J a fa) : ME J (.UnaryOp .Not a pos) (eNot fa) := by
  refine PE.up (pe_not ha) fun σ H Q q => ?_
  obtain ⟨W, ρ, st, r, q⟩ := q
  refine rd_bind _ r q fun x st1 W1 H1 v1 r1 s1 h1 q => ?_
  split at q
  · rename_i o r' st' hz
    split at hz
    · cases hz
      exact ⟨_, h1, q W1 H1 _ r1 s1 rfl⟩
    · cases hz
  · rename_i hz
    split at hz <;> cases hz
  · exact q.elim
theorem me_if (hc : MT J c g) (ha : ME J a fa) (hb : ME J b fb) : ME J (.IfExp c a b pos) (eIf g fa fb) := by
  refine PE.up (pe_ifExp hc ha hb) fun σ H Q q => ?_
  obtain ⟨W, ρ, st, r, q⟩ := q
  unfold eIf at q
  refine ⟨W, ρ, st, r, ?_⟩
  cases e1 : g ρ st with
  | exc c v st2 => simp only [e1, Out.bind_exc] at q; first | exact q | exact XO.per s1.toPer q | exact XO.per (s1.trans s2).toPer q | exact XO.per ((s1.trans s2).trans s3).toPer q
  | bad => simp only [e1, Out.bind_bad] at q
  | ok x st1 =>
    simp only [e1, Out.bind_ok] at q
    intro W1 H1 r1 s1
    have go : ∀ h : EF, (match h ρ st1 with | .ok r st' => ∀ W' H' v, RelS J.f [] W' H' σ ρ st' → Step W H W' H' → HR J.f W' H' σ ρ v r → Q v H' | .exc c v st' => XO J.EW W H ρ st' c v | .bad => False) → rdE J.f J.EW h σ H1 Q := by
      intro h q
      refine ⟨W1, ρ, st1, r1, ?_⟩
      cases e3 : h ρ st1 with
      | exc c v st2 => simp only [e3] at q; first | exact q | exact XO.per s1.toPer q | exact XO.per (s1.trans s2).toPer q | exact XO.per ((s1.trans s2).trans s3).toPer q
      | bad => simp only [e3] at q
      | ok y st2 =>
        simp only [e3] at q
        exact fun W2 H2 v r2 s2 hd => q W2 H2 v r2 (s1.trans s2) hd
    cases x with
    | true => exact go _ q
    | false => exact go _ q
end
/-! places and slices -/
theorem atD_eq {α : Type} (xs : List α) (i : Int) : atD xs i = atI xs i := rfl
theorem Dats.at {K : PySem.W.Frag} {W : Wd} {H : Hp} {ds : List D} {vs : List V} {i : Int} {d : D} (h : Dats K W H ds vs) (e : atD ds i = some d) : ∃ v, atI vs i = some v ∧ Dat K W H d v := by
  unfold atD at e
  cases e1 : ixD ds.length i with
  | none => rw [e1] at e; cases e
  | some j =>
    rw [e1] at e
    obtain ⟨v, h1, h2⟩ := h.get (i := j) e
    refine ⟨v, ?_, h2⟩
    rw [← atD_eq]
    unfold atD
    rw [← h.len, e1]
    exact h1
theorem me_ix (ha : ME J a fa) (hb : ME J b fb) (hs : PlainIx b := by exact fun _ _ => rfl) : ME J (.Subscript a b pos) (eIx fa fb) := by
  refine PE.up (pe_ix ix_seq ha hb hs) fun σ H Q h => ?_
  obtain ⟨W, ρ, st, r, h⟩ := h
  refine rd_bind _ r h fun x st1 W1 H1 v1 r1 s1 h1 h => ?_
  refine ⟨W1, ρ, st1, r1, ?_⟩
  cases e : fb ρ st1 with
  | exc c v st2 => simp only [e, Out.bind_exc] at h; first | exact h | exact XO.per s1.toPer h | exact XO.per (s1.trans s2).toPer h | exact XO.per ((s1.trans s2).trans s3).toPer h
  | bad => simp only [e, Out.bind_bad] at h
  | ok y st2 =>
    simp only [e, Out.bind_ok] at h
    intro W2 H2 v2 r2 s2 h2
    cases e1 : view ρ st2 x with
    | none => simp only [e1] at h
    | some dx =>
      cases e2 : view ρ st2 y with
      | none => simp only [e1, e2] at h
      | some dy =>
        simp only [e1, e2] at h
        have a1 := Vw.of r2 (h1.step r1 s2) e1
        have a2 := Vw.of r2 h2 e2
        cases e3 : itemD dx dy with
        | none => simp only [e3, Option.map_none, Out.of_none] at h
        | some d =>
          simp only [e3, Option.map_some, Out.of_some] at h
          have h' := fun v => h W2 H2 v r2 (s1.trans s2)
          unfold itemD at e3
          split at e3
          · rename_i xs i
            obtain ⟨p, vs, q1, q2, q3⟩ := a1
            obtain ⟨v, g1, g2⟩ := q3.at e3
            exact .inl ⟨p, vs, i, v, q1, a2, .of q2, g1, h' v g2⟩
          · rename_i xs i
            obtain ⟨p, vs, q1, q2, q3⟩ := a1
            obtain ⟨v, g1, g2⟩ := q3.at e3
            exact .inr (.inl ⟨p, vs, i, v, q1, a2, q2.sq, g1, h' v g2⟩)
          · rename_i xs i
            obtain ⟨p, q1, q2⟩ := a1
            cases e4 : atD xs i with
            | none => rw [e4] at e3; cases e3
            | some z =>
              rw [e4] at e3
              cases e3
              refine .inl ⟨p, _, i, .int z, q1, a2, q2.sq, ?_, h' _ rfl⟩
              rw [← atD_eq]
              unfold atD at e4 ⊢
              rw [List.length_map]
              cases e5 : ixD xs.length i with
              | none => rw [e5] at e4; cases e4
              | some k => rw [e5] at e4; simp only [Option.bind_some] at e4 ⊢; rw [List.getElem?_map, e4]; rfl
          · rename_i z i
            split at e3
            · rename_i hz
              cases e4 : atD z.cps.toList i with
              | none => rw [e4] at e3; cases e3
              | some c =>
                rw [e4] at e3
                cases e3
                exact .inr (.inr ⟨z, i, c, a1, a2, hz, e4, h' _ rfl⟩)
            · cases e3
          · cases e3
/-- a place in a list of own lists -/
theorem me_ix2 (i : Nat) {x : Str} {p : Pos} (hN : J.X.N[i]? = some x := by rfl) (hv : Vis J.X.env.scope x := by first | exact Or.inl rfl | exact Or.inr (Or.inl rfl) | exact Or.inr (Or.inr rfl)) (hb : ME J b fb) (hs : PlainIx b := by exact fun _ _ => rfl)
    (hd : (x == ("__debug__" : Str)) = false := by decide) (hcd : (x == ("__classdict__" : Str)) = false := by decide) : ME J (.Subscript (.Name x p) b pos) (eIx2 i fb) := by
  refine PE.up (pe_ix ix_list (pe_var hN hv hd hcd) hb hs) fun σ H Q h => ?_
  obtain ⟨W, ρ, st, r, h⟩ := h
  obtain ⟨F, O, hX, hsl⟩ := r.own
  unfold eIx2 at h
  have key : ∃ xss, ρ[i]? = some (some (.o2 xss)) := by
    rcases hi : ρ[i]? with _ | _ | s
    · simp only [hi] at h
    · simp only [hi] at h
    · cases s with
      | o2 xss => exact ⟨xss, rfl⟩
      | sh d => simp only [hi] at h
      | o1 d => simp only [hi] at h
      | exn c d => simp only [hi] at h
  · obtain ⟨xss, hi⟩ := key
    simp only [hi] at h
    obtain ⟨v0, e1, e2⟩ := hsl i _ hi
    obtain ⟨p0, as, q1, q2, q3, q4⟩ := e2
    subst q1
    refine ⟨_, e1, W, ρ, st, r, ?_⟩
    cases e : fb ρ st with
    | exc c v st2 => simp only [e, Out.bind_exc] at h; first | exact h | exact XO.per s1.toPer h | exact XO.per (s1.trans s2).toPer h | exact XO.per ((s1.trans s2).trans s3).toPer h
    | bad => simp only [e, Out.bind_bad] at h
    | ok y st1 =>
      simp only [e, Out.bind_ok] at h
      intro W1 H1 v1 r1 s1 h1
      split at h
      · rename_i o2 r' st' hz
        split at hz
        · rename_i k hk
          split at hz
          · rename_i j hj
            cases hz
            have hl := q4.len
            have hj' : ixD (as.map V.ref).length k = some j := by rw [List.length_map, ← hl]; exact hj
            have lt : j < as.length := by
              rw [← hl]
              unfold ixD at hj
              split at hj
              · split at hj
                · cases hj; omega
                · cases hj
              · split at hj
                · cases hj; omega
                · cases hj
            obtain ⟨k1, k2, k3, k4⟩ := O.ok i p0 (by rw [q2]; exact List.mem_cons_self ..)
            have hH : H1 p0 = some (.lst (as.map V.ref)) := by rw [(s1.keep p0 k2 k3 k4).1]; exact q3
            have g : (as.map V.ref)[j]? = some (V.ref as[j]) := by rw [List.getElem?_map, List.getElem?_eq_getElem lt]; rfl
            have vk : v1 = .int k := Vw.of r1 h1 hk
            refine ⟨p0, as.map V.ref, k, _, rfl, vk, .of hH, ?_, h W1 H1 _ r1 s1 ⟨xss, p0, as, as[j], hi, e1, hH, List.getElem?_eq_getElem lt, rfl⟩⟩
            rw [← atD_eq]
            unfold atD
            rw [hj']
            exact g
          · cases hz
        · cases hz
      · rename_i hz
        split at hz
        · split at hz <;> cases hz
        · cases hz
      · exact h.elim
/-- a slice: of a list, of a tuple -/
def rdO (f : Fm) (EW : XW) (g : OF) : TO := fun σ H Q => ∃ W ρ st, RelS f [] W H σ ρ st ∧ match g ρ st with
  | .ok o st' => ∀ W' H', RelS f [] W' H' σ ρ st' → Step W H W' H' → Q o H'
  | .exc c v st' => XO EW W H ρ st' c v
  | .bad => False
def MO (J : Jx) (e : Option Expr) (g : OF) : Prop := PO J.X e (rdO J.f J.EW g)
theorem PO.up {X : Cx} {e : Option Expr} {t t' : TO} (h : PO X e t) (k : ∀ σ H Q, t' σ H Q → t σ H Q) : PO X e t' := ⟨fun pins s σ H Q I q => h.run pins s σ H Q I (k σ H Q q)⟩
theorem mo_no : MO J none oNone := by
  refine PO.up po_none fun σ H Q q => ?_
  obtain ⟨W, ρ, st, r, q⟩ := q
  exact q W H r (Step.refl ..)
theorem mo_so (ha : ME J a fa) : MO J (some a) (oSome fa) := by
  refine PO.up (po_some ha) fun σ H Q q => ?_
  obtain ⟨W, ρ, st, r, q⟩ := q
  unfold oSome at q
  refine ⟨W, ρ, st, r, ?_⟩
  cases e1 : fa ρ st with
  | exc c v st2 => simp only [e1, Out.bind_exc] at q; first | exact q | exact XO.per s1.toPer q | exact XO.per (s1.trans s2).toPer q | exact XO.per ((s1.trans s2).trans s3).toPer q
  | bad => simp only [e1, Out.bind_bad] at q
  | ok x st1 =>
    simp only [e1, Out.bind_ok] at q
    intro W1 H1 v1 r1 s1 h1
    split at q
    · rename_i o r' st' hz
      split at hz
      · rename_i i hi
        cases hz
        exact ⟨i, Vw.of r1 h1 hi, q W1 H1 r1 s1⟩
      · cases hz
    · rename_i hz
      split at hz <;> cases hz
    · exact q.elim
theorem sIxD_eq (n d : Nat) (o : Option Int) : sIxD n d o = HT.sIx n d o := by cases o <;> rfl
theorem Dats.cut {K : PySem.W.Frag} {W : Wd} {H : Hp} {ds : List D} {vs : List V} (h : Dats K W H ds vs) (lo hi : Option Int) : Dats K W H (cutD ds lo hi) (cutV vs lo hi) := by
  unfold cutD cutV
  rw [sIxD_eq, sIxD_eq, h.len]
  exact (h.drop _).take _
theorem cutS_of {K : PySem.W.Frag} {W : Wd} {H : Hp} (z : Str) (lo hi : Option Int) : Dat K W H (.str ⟨(cutD z.cps.toList lo hi).toArray⟩) (.str (cutS z lo hi)) := by
  show V.str (cutS z lo hi) = V.str _
  unfold cutD
  rw [sIxD_eq, sIxD_eq]
  rfl
theorem sl_data : L2.SlR J.X (rDSl J.f.T.K) := by
  intro pins s σ H x v vl vu lo hi sl Q I rx hs pl pu h
  obtain ⟨W, st, dx, d, w, vw, e, q⟩ := h
  cases dx with
  | lst ds =>
    cases e
    obtain ⟨p, vs, e1, e2, e3⟩ := vw
    exact sl_list pins s σ H x v vl vu lo hi sl Q I rx hs pl pu ⟨p, vs, e1, .of e2, fun l hl => q.lst w (e3.cut lo hi) hl⟩
  | tup ds =>
    cases e
    obtain ⟨p, vs, e1, e2, e3⟩ := id vw
    refine sl_tupA pins s σ H x v vl vu lo hi sl Q I rx hs pl pu ⟨p, vs, e1, e2.sq, fun hw => ?_, fun _ l hl => q.tup w (e3.cut lo hi) hl⟩
    have ec : cutD ds lo hi = ds := by
      unfold cutD
      rw [sIxD_eq, sIxD_eq, e3.len, hw.1, hw.2, ← e3.len]
      simp
    rw [← e1]
    exact q.imm w (by rw [ec]; exact vw)
  | scr ns =>
    cases e
    obtain ⟨p, e1, e2⟩ := vw
    refine sl_list pins s σ H x v vl vu lo hi sl Q I rx hs pl pu ⟨p, _, e1, e2.sq, fun l hl => ?_⟩
    have ec : cutV (ns.map V.int) lo hi = (cutD ns lo hi).map V.int := by
      unfold cutD cutV
      rw [sIxD_eq, sIxD_eq, List.length_map, ← List.map_drop, ← List.map_take]
    rw [ec]
    exact q.lst w (Dats.of_ints _) hl
  | str z =>
    simp only [sliceD] at e
    by_cases hz : z.cps.size ≤ szL
    · rw [if_pos hz] at e
      cases e
      exact sl_str pins s σ H x v vl vu lo hi sl Q I rx hs pl pu ⟨z, vw, hz, q.imm w (cutS_of z lo hi)⟩
    · rw [if_neg hz] at e; cases e
  | non => cases e
  | bl _ => cases e
  | int _ => cases e
  | ref _ => cases e
  | dic _ _ => cases e
theorem me_sl {lo hi : Option Expr} {fl fh : OF} {p2 : Pos} (ha : ME J a fa) (hl : MO J lo fl) (hu : MO J hi fh) : ME J (.Subscript a (.Slice lo hi none p2) pos) (eSl fa fl fh) := by
  refine PE.up (pe_slice sl_data ha hl hu) fun σ H Q h => ?_
  obtain ⟨W, ρ, st, r, h⟩ := h
  refine rd_bind _ r h fun x st1 W1 H1 v1 r1 s1 h1 h => ?_
  refine ⟨W1, ρ, st1, r1, ?_⟩
  cases e : fl ρ st1 with
  | exc c v st2 => simp only [e, Out.bind_exc] at h; first | exact h | exact XO.per s1.toPer h | exact XO.per (s1.trans s2).toPer h | exact XO.per ((s1.trans s2).trans s3).toPer h
  | bad => simp only [e, Out.bind_bad] at h
  | ok y st2 =>
  simp only [e, Out.bind_ok] at h
  intro W2 H2 r2 s2
  refine ⟨W2, ρ, st2, r2, ?_⟩
  cases e5 : fh ρ st2 with
  | exc c v st3 => simp only [e5, Out.bind_exc] at h; first | exact h | exact XO.per s1.toPer h | exact XO.per (s1.trans s2).toPer h | exact XO.per ((s1.trans s2).trans s3).toPer h
  | bad => simp only [e5, Out.bind_bad] at h
  | ok z st3 =>
  simp only [e5, Out.bind_ok] at h
  intro W3 H3 r3 s3
  cases e1 : view ρ st3 x with
  | none => simp only [e1] at h
  | some dx =>
    simp only [e1] at h
    cases e3 : sliceD dx y z with
    | none => simp only [e3, Option.map_none, Out.of_none] at h
    | some d =>
      simp only [e3, Option.map_some, Out.of_some] at h
      exact ⟨W3, st3, dx, d, r3.wok, Vw.of r3 ((h1.step r1 s2).step r2 s3) e1, e3, fun W4 H4 v4 s4 w4 hd => h W4 H4 v4 (r3.step s4 w4) (((s1.trans s2).trans s3).trans s4) hd⟩
end
end DL

/-! DLG: calls of defs. -/
namespace DL
open PySem L2 PySem.Spec PyProof.Rows

/-- a def's promise by its mirror -/
def spD (T : Tab) (n : Nat) (M : FM) : Sp := fun vs H Q E => vs.length = n ∧ ∃ W st ds, WOk T.K W H st ∧ Dats T.K W H ds vs ∧ match M ds st with
  | .ok d st' => ∀ W' H' v, Step W H W' H' → WOk T.K W' H' st' → Dat T.K W' H' d v → Q v H'
  | .exc c x st' => ∀ W' H' cls dd, Step W H W' H' → WOk T.K W' H' st' → ExcR T W' H' c x cls dd → E cls dd H'
  | .bad => False
/-- a def's promise, called where no text of data is being made -/
structure FnG (T : Tab) (k : Nat) (f : Addr) (fd : FuncData) (ps : List Str) (sp : Sp) : Prop where
  len : ∀ us H Q E, sp us H Q E → us.length = ps.length
  run : ∀ (A : Around) (outer : List PySem.Env) (s : Shared) (H : Hp) (args : Args) (us : List Value) (vs : List V) (Q : VK) (E : XK), A.guards = some [] → Room k A → Env0 T.P T.w T.K T.mg T.base A outer s H →
    BindsTo s fd args (ps.zip us) → Vals vs us → sp vs H Q E → codeAny (model T.P T.w) A (.call (.ref f) args) (CR (L2.CX T.P T.w) outer T.P T.w H s Q E) s
theorem FnG.mono {T : Tab} {j k : Nat} {f : Addr} {fd : FuncData} {ps : List Str} {sp : Sp} (F : FnG T j f fd ps sp) (h : j ≤ k) : FnG T k f fd ps sp :=
  ⟨F.len, fun A outer s H args us vs Q E g r => F.run A outer s H args us vs Q E g (r.mono h)⟩
/-- a def that keeps its mirror's promise -/
structure Fn (T : Tab) (k : Nat) (x : Str) (ps : List Str) (M : FM) where
  f : Addr
  fd : FuncData
  ok : FnG T k f fd ps (spD T ps.length M)
  mg : T.mg x = some (.ref f)
  kp : PySem.W.keepIn T.K (.ref f) = true
  bd : Binds T.K fd ps []
section
variable {J : Jx} {a b c e : Expr} {fa fb fc : EF} {pos : Pos} {k : Nat} {x : Str} {ps : List Str} {M : FM} {p : Pos} {es : List Expr} {g : AF}
theorem sp_call {n : Nat} {σ : L2.St} {H : Hp} {Q : VK} {vs : List V} {W W1 : Wd} {H1 : Hp} {ρ : Env} {st1 : Store} {ds : List D} (r1 : RelS J.f [] W1 H1 σ ρ st1) (s1 : Step W H W1 H1) (hd : Dats J.f.T.K W1 H1 ds vs) (hn : vs.length = n)
    (h : match (M ds st1).bind fun d st2 => Out.ok (RD.d d) st2 with | .ok r st' => ∀ W' H' v, RelS J.f [] W' H' σ ρ st' → Step W H W' H' → HR J.f W' H' σ ρ v r → Q v H' | .exc c v st' => XO J.EW W H ρ st' c v | .bad => False) :
    spD J.f.T n M vs H1 Q (WE (wD J.f J.EW) σ) := by
  refine ⟨hn, W1, st1, ds, r1.wok, hd, ?_⟩
  cases e : M ds st1 with
  | ok d st2 =>
    simp only [e, Out.bind_ok] at h
    exact fun W2 H2 v s2 w2 h2 => h W2 H2 v (r1.step s2 w2) (s1.trans s2) h2
  | exc c v st2 =>
    simp only [e, Out.bind_exc] at h
    exact fun W2 H2 cls dd s2 w2 h2 => ⟨W2, ρ, st2, c, v, r1.step s2 w2, h2, h W2 H2 (s1.trans s2).toPer⟩
  | bad => simp only [e, Out.bind_bad] at h
theorem run_data {σ : L2.St} {pins : List (Addr × PySem.Obj)} {H : Hp} {s : Shared} {Q : VK} {args : Args} {us : List Value} {vs : List V} (F : Fn J.f.T k x ps M) (hc : J.calm = true) (hk : k ≤ J.lev)
    (I : Inv J.X pins σ H s) (hb : BindsTo s F.fd args (ps.zip us)) (r : Vals vs us) (h : spD J.f.T ps.length M vs H Q (WE (wD J.f J.EW) σ)) :
    wpAny (model J.X.prog J.X.w) J.X.A (call (.ref F.f) args.pos args.kw) (EP J.X pins σ Q) J.X.xe s := by
  refine wpAny_call (codeAny_mono (F.ok.run J.X.A J.X.stack s H args us vs Q _ J.gd ((J.room hc).mono hk) I.env0 hb r h) fun o s' q => ?_)
  cases o with
  | error w => exact passAt J.tk σ pins H s w s' I q
  | ok fl =>
    cases fl with
    | ret u => exact I.after q
    | next => exact False.elim q
    | brk => exact False.elim q
    | cont => exact False.elim q
/-- f(e, ..) -/
theorem me_call (F : Fn J.f.T k x ps M) (hc : J.calm = true) (hk : k ≤ J.lev) (hg : Gl J.X x) (ha : MA J (e :: es) g) (hn : ps.length = (e :: es).length := by rfl) (hdb : (x == ("__debug__" : Str)) = false := by decide)
    (he : starEach (e :: es) J.X.env = (false, eval e J.X.env) :: starEach es J.X.env := by rfl) (hpl : (backTo pos (starEach es J.X.env)).any (·.1) = false := by rfl) :
    ME J (.Call (.Name x p) (e :: es) [] pos) (eCall M g) := by
  have base : PE J.X (.Call (.Name x p) (e :: es) [] pos) (fun σ H Q => rdA J.f J.EW g σ H fun vs H1 => spD J.f.T ps.length M vs H1 Q (WE (wD J.f J.EW) σ)) := by
    refine ⟨fun pins s σ H Q I q => wpAny_Call_Name_kw (ld_glob I hg F.mg ?_ hdb)⟩
    refine PySem.W.callWith_K (h₀ := J.X.base) I.ok.mod.kin F.kp (thn (ha.1.run pos pins s σ H _ I q) fun ws s1 w => ?_) he hpl
    obtain ⟨vs, H1, I1, rv, q1⟩ := w
    have bd := F.bd s1 ws I1.kIn (by rw [List.append_nil, ← rv.length]; exact F.ok.len _ _ _ _ q1)
    rw [List.append_nil] at bd
    exact ⟨I1.kIn, run_data (args := ⟨ws, []⟩) F hc hk I1 bd rv q1⟩
  refine PE.up base fun σ H Q h => ?_
  obtain ⟨W, ρ, st, r, h⟩ := h
  unfold eCall at h
  refine ⟨W, ρ, st, r, ?_⟩
  cases e1 : g ρ st with
  | exc c v st2 => simp only [e1, Out.bind_exc] at h; first | exact h | exact XO.per s1.toPer h | exact XO.per (s1.trans s2).toPer h | exact XO.per ((s1.trans s2).trans s3).toPer h
  | bad => simp only [e1, Out.bind_bad] at h
  | ok ds st1 =>
    simp only [e1, Out.bind_ok] at h
    exact fun W1 H1 vs r1 s1 h1 => sp_call r1 s1 h1 (by rw [← h1.len, ha.2 ρ st ds st1 e1, hn]) h
/-- f() -/
theorem me_call0 (F : Fn J.f.T k x [] M) (hc : J.calm = true) (hk : k ≤ J.lev) (hg : Gl J.X x) (hdb : (x == ("__debug__" : Str)) = false := by decide) : ME J (.Call (.Name x p) [] [] pos) (eCall M aNil) := by
  refine ⟨fun pins s σ H Q I h => ?_⟩
  obtain ⟨W, ρ, st, r, h⟩ := h
  refine wpAny_Call_Name_kw (ld_glob I hg F.mg ?_ hdb)
  refine PySem.W.callWith_K0 I.kIn F.kp ?_
  have b := F.bd s [] I.kIn rfl
  exact run_data F hc hk I b .nil (sp_call (ds := []) r (Step.refl ..) rfl rfl h)
/-- the keywords' values -/
def MK (J : Jx) (kws : List Keyword) (g : AF) : Prop := PK J.X kws (rdA J.f J.EW g) ∧ ∀ ρ st ds st', g ρ st = .ok ds st' → ds.length = kws.length
theorem PK.up {X : Cx} {es : List Keyword} {t t' : TA} (h : PK X es t) (k : ∀ σ H Q, t' σ H Q → t σ H Q) : PK X es t' := ⟨fun pos pins s σ H Q I q => h.run pos pins s σ H Q I (k σ H Q q)⟩
theorem mk_nil : MK J [] aNil := by
  refine ⟨PK.up pk_nil fun σ H Q q => ?_, fun ρ st ds st' h => by cases h; rfl⟩
  obtain ⟨W, ρ, st, r, q⟩ := q
  exact q W H [] r (Step.refl ..) rfl
theorem mk_cons {kws : List Keyword} {nm : Option Str} {kp : Pos} {g : AF} (ha : ME J e fa) (hr : MK J kws g) : MK J (⟨nm, e, kp⟩ :: kws) (aCons fa g) := by
  refine ⟨PK.up (pk_cons ha hr.1) fun σ H Q h => ?_, fun ρ st ds st' q => ?_⟩
  · obtain ⟨W, ρ, st, r, h⟩ := h
    unfold aCons at h
    refine ⟨W, ρ, st, r, ?_⟩
    cases e1 : fa ρ st with
    | exc c v st2 => simp only [e1, Out.bind_exc] at h; first | exact h | exact XO.per s1.toPer h | exact XO.per (s1.trans s2).toPer h | exact XO.per ((s1.trans s2).trans s3).toPer h
    | bad => simp only [e1, Out.bind_bad] at h
    | ok x st1 =>
      simp only [e1, Out.bind_ok] at h
      intro W1 H1 v1 r1 s1 h1
      cases e2 : dOf x with
      | none => simp only [e2] at h
      | some d =>
        simp only [e2] at h
        refine ⟨W1, ρ, st1, r1, ?_⟩
        cases e3 : g ρ st1 with
        | exc c v st2 => simp only [e3, Out.bind_exc] at h; first | exact h | exact XO.per s1.toPer h | exact XO.per (s1.trans s2).toPer h | exact XO.per ((s1.trans s2).trans s3).toPer h
        | bad => simp only [e3, Out.bind_bad] at h
        | ok ds st2 =>
          simp only [e3, Out.bind_ok] at h
          intro W2 H2 vs r2 s2 h2
          exact h W2 H2 (v1 :: vs) r2 (s1.trans s2) (Dats.cons (Dat.per s2.toPer _ _ (h1.dat e2)) h2)
  · unfold aCons at q
    cases e1 : fa ρ st with
    | exc c v st2 => rw [e1] at q; cases q
    | bad => rw [e1] at q; cases q
    | ok x st1 =>
      simp only [e1, Out.bind_ok] at q
      cases e2 : dOf x with
      | none => simp only [e2] at q; cases q
      | some d =>
        simp only [e2] at q
        cases e3 : g ρ st1 with
        | exc c v st2 => rw [e3] at q; cases q
        | bad => rw [e3] at q; cases q
        | ok ds' st2 =>
          simp only [e3, Out.bind_ok] at q
          cases q
          rw [List.length_cons, List.length_cons, hr.2 _ _ _ _ e3]
/-- how keywords bind -/
def KB (K : PySem.W.Frag) (fd : FuncData) (ps : List Str) (n : Nat) (ks : List Str) (pm : List Nat) : Prop :=
  ∀ (s : Shared) (us ws : List Value), K.In s.heap → us.length = n → ws.length = ks.length → BindsTo s fd ⟨us, ks.zip ws⟩ (ps.zip (pmut pm (us ++ ws)))
theorem Dats.pmut {K : PySem.W.Frag} {W : Wd} {H : Hp} {ds : List D} {vs : List V} (h : Dats K W H ds vs) : ∀ pm : List Nat, Dats K W H (pmut pm ds) (pmut pm vs)
  | [] => rfl
  | i :: pm => by
    have ih := Dats.pmut h pm
    unfold DL.pmut at *
    rw [List.filterMap_cons, List.filterMap_cons]
    cases e : ds[i]? with
    | none =>
      have e2 : vs[i]? = none := by
        rw [List.getElem?_eq_none_iff] at e ⊢
        rw [← h.len]; exact e
      rw [e2]
      exact ih
    | some d =>
      obtain ⟨v, e2, hd⟩ := h.get e
      rw [e2]
      exact Dats.cons hd ih
theorem Vals.pmut {vs : List V} {us : List Value} (h : Vals vs us) : ∀ pm : List Nat, Vals (pmut pm vs) (pmut pm us)
  | [] => .nil
  | i :: pm => by
    have ih := Vals.pmut h pm
    unfold DL.pmut at *
    rw [List.filterMap_cons, List.filterMap_cons]
    cases e : vs[i]? with
    | none => rw [h.none_of e]; exact ih
    | some v =>
      obtain ⟨u, e2, hd⟩ := h.get e
      rw [e2]
      exact .cons hd ih
theorem pmut_len {α : Type} {l : List α} : ∀ {pm : List Nat}, (∀ i ∈ pm, i < l.length) → (pmut pm l).length = pm.length
  | [], _ => rfl
  | i :: pm, h => by
    have ih := pmut_len (pm := pm) fun j hj => h j (List.mem_cons_of_mem _ hj)
    unfold pmut at *
    rw [List.filterMap_cons, List.getElem?_eq_getElem (h i (List.mem_cons_self ..))]
    simp only [List.length_cons, ih]
/-- f(e, .., k = v, ..) -/
theorem me_callK {n : Nat} {ks : List Str} {pm : List Nat} {kws : List Keyword} {gk : AF} (F : Fn J.f.T k x ps M) (hb : KB J.f.T.K F.fd ps (es.length + 1) ks pm) (hc : J.calm = true) (hk : k ≤ J.lev) (hg : Gl J.X x) (ha : MA J (e :: es) g) (hw : MK J kws gk)
    (hall : (backToKw pos (keywordEach kws J.X.env)).all (·.1.isSome) = true := by rfl) (hks : (backToKw pos (keywordEach kws J.X.env)).filterMap (·.1) = ks := by rfl) (hkl : kws.length = ks.length := by rfl)
    (hpm : pm.length = ps.length := by rfl) (hpm2 : ∀ i ∈ pm, i < (es.length + 1) + kws.length := by decide)
    (hdb : (x == ("__debug__" : Str)) = false := by decide) (he : starEach (e :: es) J.X.env = (false, eval e J.X.env) :: starEach es J.X.env := by rfl)
    (hpl : ((backTo pos (starEach (e :: es) J.X.env)).any (·.1) || (backToKw pos (keywordEach kws J.X.env)).any (·.1.isNone)) = false := by rfl) :
    ME J (.Call (.Name x p) (e :: es) kws pos) (eCallK M pm g gk) := by
  refine ⟨fun pins s σ H Q I h => ?_⟩
  obtain ⟨W, ρ, st, r, h⟩ := h
  unfold eCallK at h
  refine wpAny_Call_Name_kw (ld_glob I hg F.mg ?_ hdb)
  refine PySem.W.callWith_KW (h₀ := J.X.base) I.ok.mod.kin F.kp hall (thn (ha.1.run pos pins s σ H (fun vs H1 => ∃ W1 ds st1, RelS J.f [] W1 H1 σ ρ st1 ∧ Step W H W1 H1 ∧ Dats J.f.T.K W1 H1 ds vs ∧ g ρ st = .ok ds st1) I ⟨W, ρ, st, r, ?_⟩) fun us s1 hq => ?_) hpl he
  · cases e1 : g ρ st with
    | exc c v st2 => simp only [e1, Out.bind_exc] at h; first | exact h | exact XO.per s1.toPer h | exact XO.per (s1.trans s2).toPer h | exact XO.per ((s1.trans s2).trans s3).toPer h
    | bad => simp only [e1, Out.bind_bad] at h
    | ok ds st1 => exact fun W1 H1 vs r1 s1 h1 => ⟨W1, ds, st1, r1, s1, h1, rfl⟩
  · obtain ⟨vs, H1, I1, rv, W1, ds, st1, r1, st01, h1, e1⟩ := hq
    simp only [e1, Out.bind_ok] at h
    refine thn (hw.1.run pos pins s1 σ H1 (fun zs H2 => ∃ W2 es' st2, RelS J.f [] W2 H2 σ ρ st2 ∧ Step W1 H1 W2 H2 ∧ Dats J.f.T.K W2 H2 es' zs ∧ gk ρ st1 = .ok es' st2) I1 ⟨W1, ρ, st1, r1, ?_⟩) fun ws s2 hq => ?_
    · cases e2 : gk ρ st1 with
      | exc c v st2 => simp only [e2, Out.bind_exc] at h; exact XO.per st01.toPer h
      | bad => simp only [e2, Out.bind_bad] at h
      | ok ds st1 => exact fun W1 H1 vs r1 s1 h1 => ⟨W1, ds, st1, r1, s1, h1, rfl⟩
    · obtain ⟨zs, H2, I2, rz, W2, es', st2, r2, st12, h2, e2⟩ := hq
      simp only [e2, Out.bind_ok] at h
      refine ⟨I2.kIn, ?_⟩
      rw [hks]
      have lu : us.length = es.length + 1 := by rw [← rv.length, ← h1.len, ha.2 _ _ _ _ e1]; rfl
      have lw : ws.length = ks.length := by rw [← rz.length, ← h2.len, hw.2 _ _ _ _ e2, hkl]
      have b := hb s2 us ws I2.kIn lu lw
      have hds := ((Dats.per st12.toPer _ _ h1).append h2).pmut pm
      refine run_data (args := ⟨us, ks.zip ws⟩) F hc hk I2 b (Vals.pmut (rv.append rz) pm) (sp_call r2 (st01.trans st12) hds ?_ h)
      rw [← hds.len, pmut_len, hpm]
      intro i hi
      rw [List.length_append, ha.2 _ _ _ _ e1, hw.2 _ _ _ _ e2]
      exact hpm2 i hi
/-- f(k = v, ..) -/
theorem me_callK0 {ks : List Str} {pm : List Nat} {kws : List Keyword} {gk : AF} (F : Fn J.f.T k x ps M) (hb : KB J.f.T.K F.fd ps 0 ks pm) (hc : J.calm = true) (hk : k ≤ J.lev) (hg : Gl J.X x) (hw : MK J kws gk)
    (hall : (backToKw pos (keywordEach kws J.X.env)).all (·.1.isSome) = true := by rfl) (hks : (backToKw pos (keywordEach kws J.X.env)).filterMap (·.1) = ks := by rfl) (hkl : kws.length = ks.length := by rfl)
    (hpm : pm.length = ps.length := by rfl) (hpm2 : ∀ i ∈ pm, i < kws.length := by decide)
    (hdb : (x == ("__debug__" : Str)) = false := by decide)
    (hpl : ((backTo pos (starEach [] J.X.env)).any (·.1) || (backToKw pos (keywordEach kws J.X.env)).any (·.1.isNone)) = false := by rfl) :
    ME J (.Call (.Name x p) [] kws pos) (eCallK M pm aNil gk) := by
  refine ⟨fun pins s σ H Q I h => ?_⟩
  obtain ⟨W, ρ, st, r, h⟩ := h
  unfold eCallK at h
  simp only [aNil, Out.bind_ok, List.nil_append] at h
  refine wpAny_Call_Name_kw (ld_glob I hg F.mg ?_ hdb)
  refine PySem.W.callWith_KW0 (h₀ := J.X.base) I.ok.mod.kin F.kp hall (thn (hw.1.run pos pins s σ H (fun zs H2 => ∃ W2 es' st2, RelS J.f [] W2 H2 σ ρ st2 ∧ Step W H W2 H2 ∧ Dats J.f.T.K W2 H2 es' zs ∧ gk ρ st = .ok es' st2) I ⟨W, ρ, st, r, ?_⟩) fun ws s2 hq => ?_) hpl
  · cases e2 : gk ρ st with
    | exc c v st2 => simp only [e2, Out.bind_exc] at h; first | exact h | exact XO.per s1.toPer h | exact XO.per (s1.trans s2).toPer h | exact XO.per ((s1.trans s2).trans s3).toPer h
    | bad => simp only [e2, Out.bind_bad] at h
    | ok ds st1 => exact fun W1 H1 vs r1 s1 h1 => ⟨W1, ds, st1, r1, s1, h1, rfl⟩
  · obtain ⟨zs, H2, I2, rz, W2, es', st2, r2, st12, h2, e2⟩ := hq
    simp only [e2, Out.bind_ok] at h
    refine ⟨I2.kIn, ?_⟩
    rw [hks]
    have lw : ws.length = ks.length := by rw [← rz.length, ← h2.len, hw.2 _ _ _ _ e2, hkl]
    have b := hb s2 [] ws I2.kIn rfl lw
    have hds := h2.pmut pm
    refine run_data (args := ⟨[], ks.zip ws⟩) F hc hk I2 b (Vals.pmut rz pm) (sp_call r2 st12 hds ?_ h)
    rw [← hds.len, pmut_len, hpm]
    intro i hi
    rw [hw.2 _ _ _ _ e2]
    exact hpm2 i hi
end
end DL

/-! DLH: statements. -/
namespace DL
open PySem L2 PySem.Spec PyProof.Rows

/-- what is wanted behind a statement's mirror -/
def FS (J : Jx) (W0 : Wd) (H0 : Hp) (D : Ends) : OutS → Prop
  | .next ρ st => ∀ W H σ, RelS J.f [] W H σ ρ st → Per W0 H0 W H → D.nx σ H
  | .brk ρ st => ∀ W H σ, RelS J.f [] W H σ ρ st → Per W0 H0 W H → D.bk σ H
  | .cont ρ st => ∀ W H σ, RelS J.f [] W H σ ρ st → Per W0 H0 W H → D.ct σ H
  | .ret d st => ∀ W H v, Step J.f.W0 J.f.H0 W H → WOk J.f.T.K W H st → Dat J.f.T.K W H d v → D.rt v H
  | .exc c v ρ st => XO J.EW W0 H0 ρ st c v
  | .bad => False
def rdS (J : Jx) (g : SF) : TS := fun D σ H => ∃ W ρ st, RelS J.f [] W H σ ρ st ∧ FS J W H D (g ρ st)
def MS (J : Jx) (s : Stmt) (g : SF) : Prop := PS J.X s (rdS J g)
def MSs (J : Jx) (s : List Stmt) (g : SF) : Prop := PSs J.X s (rdS J g)
theorem FS.per {J : Jx} {W0 W1 : Wd} {H0 H1 : Hp} {D : Ends} {o : OutS} (p : Per W0 H0 W1 H1) (h : FS J W0 H0 D o) : FS J W1 H1 D o := by
  cases o with
  | next ρ st => exact fun W H σ r q => h W H σ r (p.trans q)
  | brk ρ st => exact fun W H σ r q => h W H σ r (p.trans q)
  | cont ρ st => exact fun W H σ r q => h W H σ r (p.trans q)
  | ret d st => exact h
  | exc c v ρ st => exact XO.per p h
  | bad => exact h
section
variable {J : Jx} {a b c e : Expr} {fa fb fc : EF} {pos : Pos} {g g' : SF} {s : Stmt} {rest : List Stmt}
theorem ms_nil : MSs J [] sNil := PSs.up pss_nil fun D σ H h => by
  obtain ⟨W, ρ, st, r, h⟩ := h
  exact h W H σ r (Per.refl ..)
theorem ms_one (h : MS J s g) : MSs J [s] g := pss_one h
theorem ms_cons (h : MS J s g) (h' : MSs J rest g') : MSs J (s :: rest) (sSeq g g') := by
  refine PSs.up (pss_cons h h') fun D σ H q => ?_
  obtain ⟨W, ρ, st, r, q⟩ := q
  refine ⟨W, ρ, st, r, ?_⟩
  unfold sSeq at q
  cases e : g ρ st with
  | next ρ1 st1 => rw [e] at q; exact fun W1 H1 σ1 r1 p => ⟨W1, ρ1, st1, r1, FS.per p q⟩
  | brk ρ1 st1 => rw [e] at q; exact q
  | cont ρ1 st1 => rw [e] at q; exact q
  | ret d st1 => rw [e] at q; exact q
  | exc c v ρ1 st1 => rw [e] at q; first | exact q | exact XO.per s1.toPer q | exact XO.per (s1.trans s2).toPer q | exact XO.per ((s1.trans s2).trans s3).toPer q
  | bad => rw [e] at q; exact q
/-- a ghost step: a slot's lists are shared from now on -/
theorem ms_frz (i : Nat) (h : MSs J rest g) : MSs J rest (sSeq (sFrz i) g) := by
  refine PSs.up h fun D σ H q => ?_
  obtain ⟨W, ρ, st, r, q⟩ := q
  unfold sSeq sFrz at q
  cases e : ρ[i]? with
  | none => simp only [e] at q; exact ⟨W, ρ, st, r, q⟩
  | some o =>
    cases o with
    | none => simp only [e] at q; exact ⟨W, ρ, st, r, q⟩
    | some sl =>
      simp only [e] at q
      obtain ⟨W', r', p⟩ := r.frz' e
      exact ⟨W', _, st, r', FS.per p q⟩
/-- code that is never come to -/
theorem ms_bad : MS J s sBad := ⟨fun _ _ _ _ _ _ h => by obtain ⟨_, _, _, _, h⟩ := h; exact h.elim⟩
theorem mss_bad : MSs J rest sBad := ⟨fun _ _ _ _ _ _ h => by obtain ⟨_, _, _, _, h⟩ := h; exact h.elim⟩
theorem me_bad : ME J e (fun _ _ => .bad) := ⟨fun _ _ _ _ _ _ h => by obtain ⟨_, _, _, _, h⟩ := h; exact h.elim⟩
theorem ms_brk : MS J (.Break pos) sBrk := PS.up ps_break fun D σ H h => by
  obtain ⟨W, ρ, st, r, h⟩ := h
  exact h W H σ r (Per.refl ..)
theorem ms_cont : MS J (.Continue pos) sCont := PS.up ps_continue fun D σ H h => by
  obtain ⟨W, ρ, st, r, h⟩ := h
  exact h W H σ r (Per.refl ..)
theorem ms_pass : MS J (.Pass pos) sNil := PS.up ps_pass fun D σ H h => by
  obtain ⟨W, ρ, st, r, h⟩ := h
  exact h W H σ r (Per.refl ..)
theorem ms_expr (h : ME J e fa) (hs : swapsWith e none pos.line J.X.env = pure false := by rfl) : MS J (.Expr e pos) (sExpr fa) := by
  refine PS.up (ps_expr h hs) fun D σ H q => ?_
  obtain ⟨W, ρ, st, r, q⟩ := q
  refine ⟨W, ρ, st, r, ?_⟩
  unfold sExpr at q
  cases e : fa ρ st with
  | exc c v st2 => rw [e] at q; first | exact q | exact XO.per s1.toPer q | exact XO.per (s1.trans s2).toPer q | exact XO.per ((s1.trans s2).trans s3).toPer q
  | bad => rw [e] at q; exact q
  | ok x st1 => rw [e] at q; exact fun W1 H1 v r1 s1 _ => q W1 H1 σ r1 s1.toPer
theorem ms_ret (h : ME J e fa) : MS J (.Return (some e) pos) (sRet fa) := by
  refine PS.up (ps_ret h) fun D σ H q => ?_
  obtain ⟨W, ρ, st, r, q⟩ := q
  refine ⟨W, ρ, st, r, ?_⟩
  unfold sRet eTake at q
  cases e : fa ρ st with
  | exc c v st2 => rw [e] at q; first | exact q | exact XO.per s1.toPer q | exact XO.per (s1.trans s2).toPer q | exact XO.per ((s1.trans s2).trans s3).toPer q
  | bad => rw [e] at q; exact q
  | ok x st1 =>
    rw [e] at q
    simp only [Out.bind_ok] at q
    cases e2 : dOf x with
    | none => rw [e2] at q; exact q.elim
    | some d =>
      rw [e2] at q
      exact fun W1 H1 v r1 s1 h1 => q W1 H1 v r1.since r1.wok (h1.dat e2)
theorem ms_retN : MS J (.Return none pos) sRetN := PS.up ps_retN fun D σ H h => by
  obtain ⟨W, ρ, st, r, h⟩ := h
  exact h W H .non r.since r.wok rfl
theorem ms_if {t : TF} {xs ys : List Stmt} (hc : MT J c t) (ha : MSs J xs g) (hb : MSs J ys g') : MS J (.If c xs ys pos) (sIf t g g') := by
  refine PS.up (ps_if hc ha hb) fun D σ H q => ?_
  obtain ⟨W, ρ, st, r, q⟩ := q
  refine ⟨W, ρ, st, r, ?_⟩
  unfold sIf at q
  cases e : t ρ st with
  | exc c v st2 => rw [e] at q; first | exact q | exact XO.per s1.toPer q | exact XO.per (s1.trans s2).toPer q | exact XO.per ((s1.trans s2).trans s3).toPer q
  | bad => rw [e] at q; exact q
  | ok x st1 =>
    rw [e] at q
    simp only [Out.bindS_ok] at q
    intro W1 H1 r1 s1
    cases x with
    | true => exact ⟨W1, ρ, st1, r1, FS.per s1.toPer q⟩
    | false => exact ⟨W1, ρ, st1, r1, FS.per s1.toPer q⟩
/-! ### names stored -/
theorem set_read {i : Nat} {D : Ends} {σ : L2.St} {H : Hp} (q : rdS J (sSet i fa) D σ H) : rdE J.f J.EW fa σ H (fun x H1 => D.nx (σ.set i (some x)) H1) := by
  obtain ⟨W, ρ, st, r, q⟩ := q
  refine ⟨W, ρ, st, r, ?_⟩
  unfold sSet eTake at q
  cases e : fa ρ st with
  | exc c v st2 => rw [e] at q; first | exact q | exact XO.per s1.toPer q | exact XO.per (s1.trans s2).toPer q | exact XO.per ((s1.trans s2).trans s3).toPer q
  | bad => rw [e] at q; exact q
  | ok x st1 =>
    rw [e] at q
    simp only [Out.bind_ok] at q
    cases e2 : dOf x with
    | none => rw [e2] at q; exact q.elim
    | some d =>
      rw [e2] at q
      exact fun W1 H1 v r1 s1 h1 => q W1 H1 _ (r1.set (h1.dat e2)) s1.toPer
theorem ms_set (i : Nat) {x : Str} {py : Pos} (he : ME J e fa) (hi : J.X.N[i]? = some x := by rfl) (hx : Loc J.X.env.scope x := by first | exact Or.inl rfl | exact Or.inr rfl) (hs : swapsWith e (some (.Name x py)) pos.line J.X.env = pure false := by rfl)
    (hf : J.X.fn x = true ∨ J.X.env.scope.names.lookup x = some .local := by first | exact .inl rfl | exact .inr rfl) : MS J (.Assign [.Name x py] e pos) (sSet i fa) := PS.up (ps_set J.nd hi hx he hs hf) fun D σ H q => set_read q
theorem own_read {i : Nat} {l : LF} {D : Ends} {σ : L2.St} {H : Hp} (q : rdS J (sOwn i l) D σ H) : rdL J.f J.EW l σ H (fun x H1 => D.nx (σ.set i (some x)) H1) := by
  obtain ⟨W, ρ, st, r, q⟩ := q
  refine ⟨W, ρ, st, r, ?_⟩
  unfold sOwn at q
  cases e : l ρ st with
  | exc c v st2 => rw [e] at q; first | exact q | exact XO.per s1.toPer q | exact XO.per (s1.trans s2).toPer q | exact XO.per ((s1.trans s2).trans s3).toPer q
  | bad => rw [e] at q; exact q
  | ok ds st1 =>
    rw [e] at q
    exact fun W1 H1 p vs r1 s1 hn hp hd => q W1 H1 _ (r1.setX (s := .o1 ds) ⟨p, vs, rfl, rfl, hp, hd⟩) s1.toPer
/-! ### targets -/
theorem ms_own (i : Nat) {x : Str} {py : Pos} {l : LF} (he : ML J e l) (hi : J.X.N[i]? = some x := by rfl) (hx : Loc J.X.env.scope x := by first | exact Or.inl rfl | exact Or.inr rfl) (hs : swapsWith e (some (.Name x py)) pos.line J.X.env = pure false := by rfl)
    (hf : J.X.fn x = true ∨ J.X.env.scope.names.lookup x = some .local := by first | exact .inl rfl | exact .inr rfl) : MS J (.Assign [.Name x py] e pos) (sOwn i l) := PS.up (ps_set J.nd hi hx he hs hf) fun D σ H q => own_read q
def setMV (σ : L2.St) : List Nat → List V → L2.St
  | i :: is, v :: vs => setMV (σ.set i (some v)) is vs
  | _, _ => σ
theorem RelS.setMany {f : Fm} {W : Wd} {H : Hp} {st : Store} : ∀ {as : List (Nat × D)} {vs : List V} {σ : L2.St} {ρ : Env}, RelS f [] W H σ ρ st → Dats f.T.K W H (as.map (·.2)) vs → RelS f [] W H (setMV σ (as.map (·.1)) vs) (setMany ρ as) st
  | [], _, _, _, r, h => by rw [show _ = _ from h]; exact r
  | (i, d) :: as, _, σ, ρ, r, h => by
    obtain ⟨v, vs, e, h1, h2⟩ := h
    subst e
    exact RelS.setMany (as := as) (σ := σ.set i (some v)) (ρ := ρ.set i (some (.sh d))) (r.set h1) h2
theorem RelS.kills {f : Fm} {X : List Addr} {W : Wd} {H : Hp} {st : Store} {σ : L2.St} : ∀ {is : List Nat} {ρ : Env}, RelS f X W H σ ρ st → RelS f X W H σ (killE ρ is) st
  | [], _, r => r
  | i :: is, ρ, r => RelS.kills (is := is) (r.kill i)
def rdP (J : Jx) (p : Pt) : TG := fun v σ H Q => ∃ W st d as, WOk J.f.T.K W H st ∧ Dat J.f.T.K W H d v ∧ pmat p d = some as ∧ ∀ vs, Dats J.f.T.K W H (as.map (·.2)) vs → Q (setMV σ (as.map (·.1)) vs) H
def rdPs (J : Jx) (ps : List Pt) : TGs := fun us σ H Q => ∃ W st ds as, WOk J.f.T.K W H st ∧ Dats J.f.T.K W H ds us ∧ pmats ps ds = some as ∧ ∀ vs, Dats J.f.T.K W H (as.map (·.2)) vs → Q (setMV σ (as.map (·.1)) vs) H
def MP (J : Jx) (t : Expr) (p : Pt) : Prop := PG J.X t (rdP J p)
def MPs (J : Jx) (ts : List Expr) (ps : List Pt) : Prop := PGs J.X ts (rdPs J ps)
theorem mp_name (i : Nat) {x : Str} (hi : J.X.N[i]? = some x := by rfl) (hx : Loc J.X.env.scope x := by first | exact Or.inl rfl | exact Or.inr rfl) (hf : J.X.fn x = true ∨ J.X.env.scope.names.lookup x = some .local := by first | exact .inl rfl | exact .inr rfl) : MP J (.Name x pos) (.n i) := by
  refine ⟨fun pins s σ H v u Q I ru q => (pg_name J.nd hi hx hf).run pins s σ H v u Q I ru ?_⟩
  obtain ⟨W, st, d, as, w, hd, e, q⟩ := q
  simp only [pmat, Option.some.injEq] at e
  subst e
  exact q [v] (Dats.cons hd rfl)
theorem mps_nil : MPs J [] [] := by
  refine ⟨fun pins s σ H vs us Q I ru q => (pgs_nil).run pins s σ H vs us Q I ru ?_⟩
  obtain ⟨W, st, ds, as, w, hd, e, q⟩ := q
  cases ds with
  | cons d ds => simp only [pmats] at e; cases e
  | nil =>
    simp only [pmats, Option.some.injEq] at e
    subst e
    exact ⟨hd, q [] rfl⟩
theorem setMV_append : ∀ {is js : List Nat} {vs us : List V} {σ : L2.St}, is.length = vs.length → setMV (setMV σ is vs) js us = setMV σ (is ++ js) (vs ++ us)
  | [], _, [], _, _, _ => rfl
  | i :: is, js, v :: vs, us, σ, h => by
    show setMV (setMV (σ.set i (some v)) is vs) js us = setMV (σ.set i (some v)) (is ++ js) (vs ++ us)
    exact setMV_append (Nat.succ.inj h)
theorem mps_cons {t : Expr} {ts : List Expr} {p : Pt} {ps : List Pt} (h : MP J t p) (h' : MPs J ts ps) (hs : (assignEach (t :: ts) J.X.env).map (·.2) = assign t J.X.env :: (assignEach ts J.X.env).map (·.2) := by rfl) : MPs J (t :: ts) (p :: ps) := by
  refine ⟨fun pins s σ H vs us Q I ru q => (pgs_cons h h' hs).run pins s σ H vs us Q I ru ?_⟩
  obtain ⟨W, st, ds, as, w, hd, e, q⟩ := q
  cases ds with
  | nil => simp only [pmats] at e; cases e
  | cons d ds =>
    obtain ⟨v, r, e1, h1, h2⟩ := hd
    subst e1
    simp only [pmats] at e
    cases e3 : pmat p d with
    | none => simp only [e3] at e; cases e
    | some a1 =>
      cases e4 : pmats ps ds with
      | none => simp only [e3, e4] at e; cases e
      | some a2 =>
        simp only [e3, e4, Option.some.injEq] at e
        subst e
        refine ⟨v, r, rfl, W, st, d, a1, w, h1, e3, fun v1 hv1 => ⟨W, st, ds, a2, w, h2, e4, fun v2 hv2 => ?_⟩⟩
        have l : (a1.map (·.1)).length = v1.length := by rw [← hv1.len, List.length_map, List.length_map]
        rw [setMV_append l, ← List.map_append]
        exact q (v1 ++ v2) (by rw [List.map_append]; exact hv1.append hv2)
theorem mp_tup {ts : List Expr} {ps : List Pt} {k : Nat} {n : Nat} (h : MPs J ts ps) (hc : J.calm = true) (hl : ps.length = n := by rfl) (hn : (assignEach ts J.X.env).length = n := by rfl) (hst : (assignEach ts J.X.env).findIdx? (·.1) = none := by rfl) : MP J (.Tuple ts k pos) (.t ps) := by
  refine ⟨fun pins s σ H v u Q I ru q => ?_⟩
  obtain ⟨W, st, d, as, w, hd, e, q⟩ := q
  have len : ∀ (ps : List Pt) (ds : List D) (as : List (Nat × D)), pmats ps ds = some as → ps.length = ds.length := by
    intro ps
    induction ps with
    | nil => intro ds as e; cases ds with
      | nil => rfl
      | cons d ds => simp only [pmats] at e; cases e
    | cons p ps ih => intro ds as e; cases ds with
      | nil => simp only [pmats] at e; cases e
      | cons d ds =>
        simp only [pmats] at e
        split at e
        · rename_i h1 h2
          rw [List.length_cons, List.length_cons, ih _ _ h2]
        · cases e
  cases d with
  | tup ds =>
    refine (pg_tup hc h hn hst).run pins s σ H v u Q I ru ?_
    obtain ⟨a, vs, e1, e2, e3⟩ := hd
    simp only [pmat] at e
    exact ⟨a, vs, e1, e2.sq, by rw [← e3.len, ← len _ _ _ e, hl], W, st, ds, as, w, e3, e, q⟩
  | lst ds =>
    refine (pg_unl hc h hn hst).run pins s σ H v u Q I ru ?_
    obtain ⟨a, vs, e1, e2, e3⟩ := hd
    simp only [pmat] at e
    exact ⟨a, vs, e1, e2.sq, by rw [← e3.len, ← len _ _ _ e, hl], W, st, ds, as, w, e3, e, q⟩
  | non => simp only [pmat] at e; cases e
  | bl _ => simp only [pmat] at e; cases e
  | int _ => simp only [pmat] at e; cases e
  | str _ => simp only [pmat] at e; cases e
  | ref _ => simp only [pmat] at e; cases e
  | scr _ => simp only [pmat] at e; cases e
  | dic _ _ => simp only [pmat] at e; cases e
/-- a, (b, c) = e -/
theorem ms_pat {t : Expr} {p : Pt} (he : ME J e fa) (hp : MP J t p) (hs : swapsWithSole [t] e pos.line J.X.env = pure false := by rfl) (hw : swappedStores [t] e J.X.env = pure none := by rfl)
    (h1 : (assignEach [t] J.X.env).map (·.2) = [assign t J.X.env] := by rfl) : MS J (.Assign [t] e pos) (sPat p fa) := by
  refine PS.up (ps_asg he hp hs hw h1) fun D σ H q => ?_
  obtain ⟨W, ρ, st, r, q⟩ := q
  refine ⟨W, ρ, st, r, ?_⟩
  unfold sPat eTake at q
  cases e : fa ρ st with
  | exc c v st2 => rw [e] at q; first | exact q | exact XO.per s1.toPer q | exact XO.per (s1.trans s2).toPer q | exact XO.per ((s1.trans s2).trans s3).toPer q
  | bad => rw [e] at q; exact q
  | ok x st1 =>
    rw [e] at q
    simp only [Out.bind_ok] at q
    cases e2 : dOf x with
    | none => rw [e2] at q; exact q.elim
    | some d =>
      rw [e2] at q
      simp only [Out.of_some, Out.bindS_ok] at q
      intro W1 H1 v r1 s1 h1
      cases e3 : pmat p d with
      | none => rw [e3] at q; exact q.elim
      | some as =>
        rw [e3] at q
        exact ⟨W1, st1, d, as, r1.wok, h1.dat e2, e3, fun vs hv => q W1 H1 _ (r1.setMany hv) s1.toPer⟩
/-- x, y = a, b -/
theorem ms_par (i j : Nat) {x y : Str} {px py pt : Pos} {kt k2 : Nat} {pt2 : Pos} {g : AF} (hc : J.calm = true) (ha : MA J [a, b] g) (hi : J.X.N[i]? = some x := by rfl) (hj : J.X.N[j]? = some y := by rfl) (hij : i ≠ j := by decide)
    (hx : J.X.env.scope.names.lookup x = some .local := by rfl) (hy : J.X.env.scope.names.lookup y = some .local := by rfl)
    (hw : swappedStores [.Tuple [.Name x px, .Name y py] kt pt] (.Tuple [a, b] k2 pt2) J.X.env = pure (some [x, y]) := by rfl)
    (hs : swapsWithSole [.Tuple [.Name x px, .Name y py] kt pt] (.Tuple [a, b] k2 pt2) pos.line J.X.env = pure false := by rfl) :
    MS J (.Assign [.Tuple [.Name x px, .Name y py] kt pt] (.Tuple [a, b] k2 pt2) pos) (sPar [i, j] g) := by
  refine PS.up (ps_par hc J.nd hi hj hij hx hy ha.1 hw hs) fun D σ H q => ?_
  obtain ⟨W, ρ, st, r, q⟩ := q
  refine ⟨W, ρ, st, r, ?_⟩
  unfold sPar at q
  cases e : g ρ st with
  | exc c v st2 => rw [e] at q; first | exact q | exact XO.per s1.toPer q | exact XO.per (s1.trans s2).toPer q | exact XO.per ((s1.trans s2).trans s3).toPer q
  | bad => rw [e] at q; exact q
  | ok ds st1 =>
    rw [e] at q
    simp only [Out.bindS_ok] at q
    intro W1 H1 vs r1 s1 hd
    have hl := ha.2 _ _ _ _ e
    match ds, hl with
    | [d1, d2], _ =>
      obtain ⟨v, r, e1, h1, h2⟩ := hd
      obtain ⟨w, r2, e2, h3, h4⟩ := h2
      have h4 : r2 = [] := h4
      subst e1 e2 h4
      exact ⟨v, w, rfl, q W1 H1 _ ((r1.set h1).set h3) s1.toPer⟩
end
end DL

/-! DLI: what is walked; for, while, comprehensions. -/
namespace DL
open PySem L2 PySem.Spec PyProof.Rows

/-- an iterator that yields these data, whatever becomes of the rest of the heap -/
structure ItD (K : PySem.W.Frag) (I : It) (W : Wd) (H : Hp) (ds : List D) : Prop where
  go : ∀ W' H' st, Per W H W' H' → WOk K W' H' st → ∀ i, i < ds.length → I.go i H'
  stop : ∀ W' H' st, Per W H W' H' → WOk K W' H' st → I.stop ds.length H'
  yld : ∀ W' H' st, Per W H W' H' → WOk K W' H' st → ∀ i d x H2, ds[i]? = some d → I.yld i H' x H2 → ∃ W2, Step W' H' W2 H2 ∧ WOk K W2 H2 st ∧ Dat K W2 H2 d x
def rdI (f : Fm) (EW : XW) (g : IF) : TI := fun σ H R => ∃ W ρ st, RelS f [] W H σ ρ st ∧ match g ρ st with
  | .ok ds st' => ∀ W' H' I, RelS f [] W' H' σ ρ st' → Step W H W' H' → ItD f.T.K I W' H' ds → R I H'
  | .exc c v st' => XO EW W H ρ st' c v
  | .bad => False
def MI (J : Jx) (t e : Expr) (g : IF) : Prop := PI J.X t e (rdI J.f J.EW g)
theorem PI.up {X : Cx} {t e : Expr} {w w' : TI} (h : PI X t e w) (k : ∀ σ H R, w' σ H R → w σ H R) : PI X t e w' := ⟨fun pins s σ H R I q => h.run pins s σ H R I (k σ H R q)⟩
theorem itd_tup {K : PySem.W.Frag} {W : Wd} {H : Hp} {a : Addr} {vs : List V} {ds : List D} (h : FzT K W H a vs) (hd : Dats K W H ds vs) : ItD K (Itt K a) W H ds := by
  refine ⟨fun W' H' st p w i hi => ?_, fun W' H' st p w => ?_, fun W' H' st p w i d x H2 hi y => ?_⟩
  · obtain ⟨v, h1, _⟩ := hd.get (List.getElem?_eq_getElem hi)
    exact ⟨vs, v, (h.per p).sq, h1⟩
  · exact ⟨vs, (h.per p).sq, by rw [← hd.len]; exact Nat.le_refl _⟩
  · obtain ⟨e, y⟩ := y
    subst e
    obtain ⟨v, h1, h2⟩ := hd.get hi
    have := y vs (h.per p).sq
    rw [h1] at this
    cases this
    exact ⟨W', Step.refl .., w, Dat.per p _ _ h2⟩
theorem itd_lst {K : PySem.W.Frag} {W : Wd} {H : Hp} {a : Addr} {vs : List V} {ds : List D} (h : FzL W H a vs) (hd : Dats K W H ds vs) : ItD K (Itl K a) W H ds := by
  refine ⟨fun W' H' st p w i hi => ?_, fun W' H' st p w => ?_, fun W' H' st p w i d x H2 hi y => ?_⟩
  · obtain ⟨v, h1, _⟩ := hd.get (List.getElem?_eq_getElem hi)
    exact ⟨vs, v, (h.per p).sq, h1⟩
  · exact ⟨vs, (h.per p).sq, by rw [← hd.len]; exact Nat.le_refl _⟩
  · obtain ⟨e, y⟩ := y
    subst e
    obtain ⟨v, h1, h2⟩ := hd.get hi
    have := y vs (h.per p).sq
    rw [h1] at this
    cases this
    exact ⟨W', Step.refl .., w, Dat.per p _ _ h2⟩
theorem itd_rng {K : PySem.W.Frag} {W : Wd} {H : Hp} (lo : Int) (n : Nat) : ItD K (Itr lo n) W H ((List.range n).map fun (i : Nat) => D.int (lo + (i : Int))) := by
  refine ⟨fun W' H' st p w i hi => ?_, fun W' H' st p w => ?_, fun W' H' st p w i d x H2 hi y => ?_⟩
  · show i < n
    simpa using hi
  · show n ≤ _
    simp
  · obtain ⟨e, y⟩ := y
    subst e y
    have hl : i < n := by
      have := (List.getElem?_eq_some_iff.mp hi).1
      simpa using this
    rw [List.getElem?_map, List.getElem?_range hl] at hi
    cases hi
    exact ⟨W', Step.refl .., w, rfl⟩
section
variable {J : Jx} {a b c e t : Expr} {fa fb fc : EF} {pos : Pos}
theorem mi_list (ha : ME J a fa) : MI J t a (iList fa) := by
  refine PI.up (pi_list ha) fun σ H R q => ?_
  obtain ⟨W, ρ, st, r, q⟩ := q
  refine ⟨W, ρ, st, r, ?_⟩
  unfold iList at q
  cases e : fa ρ st with
  | exc c v st2 => rw [e] at q; first | exact q | exact XO.per s1.toPer q | exact XO.per (s1.trans s2).toPer q | exact XO.per ((s1.trans s2).trans s3).toPer q
  | bad => rw [e] at q; exact q
  | ok x st1 =>
    rw [e] at q
    simp only [Out.bind_ok] at q
    intro W1 H1 v r1 s1 h1
    split at q
    · rename_i o ds st' hz
      split at hz
      · cases hz
        obtain ⟨p, vs, e1, e2, e3⟩ := h1
        exact ⟨p, e1, ⟨vs, e2.sq⟩, q W1 H1 _ r1 s1 (itd_lst e2 e3)⟩
      · cases hz
    · rename_i hz
      split at hz <;> cases hz
    · exact q.elim
theorem mi_tup (ha : ME J a fa) : MI J t a (iTuple fa) := by
  refine PI.up (pi_tup ha) fun σ H R q => ?_
  obtain ⟨W, ρ, st, r, q⟩ := q
  refine ⟨W, ρ, st, r, ?_⟩
  unfold iTuple at q
  cases e : fa ρ st with
  | exc c v st2 => rw [e] at q; first | exact q | exact XO.per s1.toPer q | exact XO.per (s1.trans s2).toPer q | exact XO.per ((s1.trans s2).trans s3).toPer q
  | bad => rw [e] at q; exact q
  | ok x st1 =>
    rw [e] at q
    simp only [Out.bind_ok] at q
    intro W1 H1 v r1 s1 h1
    split at q
    · rename_i o ds st' hz
      split at hz
      · cases hz
        obtain ⟨p, vs, e1, e2, e3⟩ := h1
        exact ⟨p, e1, ⟨vs, e2.sq⟩, q W1 H1 _ r1 s1 (itd_tup e2 e3)⟩
      · cases hz
    · rename_i hz
      split at hz <;> cases hz
    · exact q.elim
/-- a list or a tuple, as the mirror says -/
theorem mi_data (ha : ME J a fa) : MI J t a (iData fa) := by
  refine ⟨fun pins s σ H R I q => ?_⟩
  obtain ⟨W, ρ, st, r, q⟩ := q
  unfold iData at q
  cases e : fa ρ st with
  | exc c v st2 =>
    refine (mi_list ha).run pins s σ H R I ⟨W, ρ, st, r, ?_⟩
    unfold iList
    rw [e] at q ⊢
    exact q
  | bad => rw [e] at q; exact q.elim
  | ok x st1 =>
    rw [e] at q
    simp only [Out.bind_ok] at q
    cases x with
    | d y =>
      cases y with
      | lst ds =>
        refine (mi_list ha).run pins s σ H R I ⟨W, ρ, st, r, ?_⟩
        unfold iList
        rw [e]
        exact q
      | tup ds =>
        refine (mi_tup ha).run pins s σ H R I ⟨W, ρ, st, r, ?_⟩
        unfold iTuple
        rw [e]
        exact q
      | non => exact q.elim
      | bl _ => exact q.elim
      | int _ => exact q.elim
      | str _ => exact q.elim
      | ref _ => exact q.elim
      | scr _ => exact q.elim
      | dic _ _ => exact q.elim
    | sl i => exact q.elim
    | sl2 i j => exact q.elim
    | exn i => exact q.elim
theorem rng_eq (lo hi : Int) : (List.range (hi - lo).toNat).map (fun (i : Nat) => D.int (lo + (i : Int))) = rngD lo hi := rfl
theorem mi_range1 {p : Pos} {g : AF} (hg : Gl J.X "range") (hm : J.f.T.mg "range" = none) (ha : MA J [a] g) (hs : starEach [a] J.X.env = [(false, eval a J.X.env)] := by rfl) : MI J t (.Call (.Name "range" p) [a] [] pos) (iRng g) := by
  refine PI.up (pi_range1 hg hm ha.1 hs) fun σ H R q => ?_
  obtain ⟨W, ρ, st, r, q⟩ := q
  refine ⟨W, ρ, st, r, ?_⟩
  unfold iRng at q
  cases e : g ρ st with
  | exc c v st2 => rw [e] at q; first | exact q | exact XO.per s1.toPer q | exact XO.per (s1.trans s2).toPer q | exact XO.per ((s1.trans s2).trans s3).toPer q
  | bad => rw [e] at q; exact q
  | ok x st1 =>
    rw [e] at q
    simp only [Out.bind_ok] at q
    intro W1 H1 vs r1 s1 h1
    have hl := ha.2 _ _ _ _ e
    split at q
    · rename_i o ds st' hz
      split at hz
      · rename_i j
        split at hz
        · rename_i hb
          cases hz
          obtain ⟨v, r', e1, e2, e3⟩ := h1
          have e3 : r' = [] := e3
          have e2 : v = .int j := e2
          subst e1 e2 e3
          refine ⟨j, rfl, hb.1, hb.2, q W1 H1 _ r1 s1 ?_⟩
          have := itd_rng (K := J.f.T.K) (W := W1) (H := H1) 0 j.toNat
          have e4 : rngD 0 j = (List.range j.toNat).map (fun (i : Nat) => D.int (0 + (i : Int))) := by unfold rngD; rw [Int.sub_zero]
          rw [e4]
          exact this
        · cases hz
      · simp at hl
      · cases hz
    · rename_i hz
      split at hz
      · split at hz <;> cases hz
      · split at hz <;> cases hz
      · cases hz
    · exact q.elim
theorem mi_range2 {p : Pos} {g : AF} (hg : Gl J.X "range") (hm : J.f.T.mg "range" = none) (ha : MA J [a, b] g) (hs : starEach [a, b] J.X.env = [(false, eval a J.X.env), (false, eval b J.X.env)] := by rfl) (hs2 : starEach [b] J.X.env = [(false, eval b J.X.env)] := by rfl) :
    MI J t (.Call (.Name "range" p) [a, b] [] pos) (iRng g) := by
  refine PI.up (pi_range2 hg hm ha.1 hs hs2) fun σ H R q => ?_
  obtain ⟨W, ρ, st, r, q⟩ := q
  refine ⟨W, ρ, st, r, ?_⟩
  unfold iRng at q
  cases e : g ρ st with
  | exc c v st2 => rw [e] at q; first | exact q | exact XO.per s1.toPer q | exact XO.per (s1.trans s2).toPer q | exact XO.per ((s1.trans s2).trans s3).toPer q
  | bad => rw [e] at q; exact q
  | ok x st1 =>
    rw [e] at q
    simp only [Out.bind_ok] at q
    intro W1 H1 vs r1 s1 h1
    have hl := ha.2 _ _ _ _ e
    split at q
    · rename_i o ds st' hz
      split at hz
      · simp at hl
      · rename_i i j
        split at hz
        · rename_i hb
          cases hz
          obtain ⟨v, r', e1, e2, e3⟩ := h1
          obtain ⟨v', r2, e4, e5, e6⟩ := e3
          have e6 : r2 = [] := e6
          have e2 : v = .int i := e2
          have e5 : v' = .int j := e5
          subst e1 e2 e4 e5 e6
          exact ⟨i, j, rfl, ⟨hb.1.1, hb.1.2, hb.2.1, hb.2.2⟩, q W1 H1 _ r1 s1 (itd_rng i _)⟩
        · cases hz
      · cases hz
    · rename_i hz
      split at hz
      · split at hz <;> cases hz
      · split at hz <;> cases hz
      · cases hz
    · exact q.elim
/-! ### for -/
theorem ms_for {it : Expr} {body : List Stmt} {fi : IF} {p : Pt} {g : SF} (kill : List Nat) (hi : MI J t it fi) (hp : MP J t p) (hb : MSs J body g) (hc : J.calm = true)
    (hs : ∀ x, foldedSetIterable it J.X.env x = pure x := by intro _; rfl) : MS J (.For t it body [] pos) (sFor fi p g kill) := by
  refine PS.up (ps_for J.po hc hi hp hb hs) fun D σ H q => ?_
  obtain ⟨W, ρ, st, r, q⟩ := q
  refine ⟨W, ρ, st, r, ?_⟩
  unfold sFor at q
  cases e : fi ρ st with
  | exc c v st2 => rw [e] at q; first | exact q | exact XO.per s1.toPer q | exact XO.per (s1.trans s2).toPer q | exact XO.per ((s1.trans s2).trans s3).toPer q
  | bad => rw [e] at q; exact q
  | ok ds st1 =>
    rw [e] at q
    simp only [Out.bindS_ok] at q
    intro W1 H1 I r1 s1 hI
    refine ⟨fun i m σ' H' => ∃ W' ρ' st', RelS J.f [] W' H' σ' ρ' st' ∧ Per W1 H1 W' H' ∧ m = ds.length - i ∧ i ≤ ds.length ∧ FS J W H D (forS p g kill (ds.drop i) ρ' st'), ⟨ds.length, W1, _, st1, r1.kills, Per.refl .., rfl, Nat.zero_le _, q⟩, ?_⟩
    rintro i m σ' H' ⟨W', ρ', st', r', per, rfl, hle, q⟩
    by_cases hlt : i < ds.length
    · refine .inr ⟨hI.go W' H' st' per r'.wok i hlt, fun σ2 H2 => ∃ W2 ρ2 st2, RelS J.f [] W2 H2 σ2 ρ2 st2 ∧ Per W1 H1 W2 H2 ∧ FS J W H D (forS p g kill (ds.drop (i + 1)) ρ2 st2),
        fun σ2 H2 ⟨W2, ρ2, st2, r2, p2, q2⟩ => ⟨ds.length - (i + 1), by omega, W2, ρ2, st2, r2, p2, rfl, hlt, q2⟩, fun x H2 y => ?_⟩
      obtain ⟨W2, s2, w2, hx⟩ := hI.yld W' H' st' per r'.wok i ds[i] x H2 (List.getElem?_eq_getElem hlt) y
      have r2 := r'.step s2 w2
      rw [List.drop_eq_getElem_cons hlt] at q
      unfold forS at q
      cases e2 : pmat p ds[i] with
      | none => rw [e2] at q; exact q.elim
      | some as =>
        rw [e2] at q
        simp only at q
        refine ⟨W2, st', ds[i], as, w2, hx, e2, fun vs hv => ⟨W2, _, st', r2.setMany hv, ?_⟩⟩
        have p2 : Per W1 H1 W2 H2 := per.trans s2.toPer
        cases e3 : g (setMany ρ' as) st' with
        | next ρ3 st3 =>
          rw [e3] at q
          exact fun W3 H3 σ3 r3 p3 => ⟨W3, _, st3, r3.kills, p2.trans p3, q⟩
        | cont ρ3 st3 =>
          rw [e3] at q
          exact fun W3 H3 σ3 r3 p3 => ⟨W3, _, st3, r3.kills, p2.trans p3, q⟩
        | brk ρ3 st3 =>
          rw [e3] at q
          exact fun W3 H3 σ3 r3 p3 => q W3 H3 σ3 r3.kills (s1.toPer.trans (p2.trans p3))
        | ret d st3 => rw [e3] at q; exact q
        | exc c v ρ3 st3 => rw [e3] at q; exact XO.per (s1.toPer.trans p2) q
        | bad => rw [e3] at q; exact q
    · have e0 : ds.drop i = [] := List.drop_eq_nil_of_le (by omega)
      rw [e0] at q
      have ei : i = ds.length := by omega
      subst ei
      exact .inl ⟨hI.stop W' H' st' per r'.wok, q W' H' σ' r' (s1.toPer.trans per)⟩
theorem ms_while {body : List Stmt} {tc : TF} {g : SF} (kill : List Nat) (hc : MT J c tc) (hb : MSs J body g) : MS J (.While c body [] pos) (sWhile tc g kill) := by
  refine PS.up (ps_while J.po hc hb) fun D σ H q => ?_
  obtain ⟨W, ρ, st, r, q⟩ := q
  unfold sWhile at q
  refine ⟨fun m σ' H' => ∃ W' ρ' st', RelS J.f [] W' H' σ' ρ' st' ∧ Per W H W' H' ∧ FS J W H D (whileS tc g kill m ρ' st'), ⟨_, W, _, st, r.kills, Per.refl .., q⟩, ?_⟩
  rintro m σ' H' ⟨W', ρ', st', r', per, q⟩
  refine ⟨W', ρ', st', r', ?_⟩
  cases m with
  | zero => exact q.elim
  | succ m =>
    unfold whileS at q
    cases e : tc ρ' st' with
    | exc c v st2 => rw [e] at q; exact XO.per per q
    | bad => rw [e] at q; exact q
    | ok k st1 =>
      rw [e] at q
      simp only [Out.bindS_ok] at q
      intro W1 H1 r1 s1
      cases k with
      | false =>
        rw [if_neg (by simp)] at q ⊢
        exact q W1 H1 σ' r1 (per.trans s1.toPer)
      | true =>
        rw [if_pos rfl] at q ⊢
        refine ⟨fun σ2 H2 => ∃ W2 ρ2 st2, RelS J.f [] W2 H2 σ2 ρ2 st2 ∧ Per W H W2 H2 ∧ FS J W H D (whileS tc g kill m ρ2 st2), fun σ2 H2 h => ⟨m, Nat.lt_succ_self m, h⟩, W1, ρ', st1, r1, ?_⟩
        have p1 : Per W H W1 H1 := per.trans s1.toPer
        cases e3 : g ρ' st1 with
        | next ρ3 st3 =>
          rw [e3] at q
          exact fun W3 H3 σ3 r3 p3 => ⟨W3, _, st3, r3.kills, p1.trans p3, q⟩
        | cont ρ3 st3 =>
          rw [e3] at q
          exact fun W3 H3 σ3 r3 p3 => ⟨W3, _, st3, r3.kills, p1.trans p3, q⟩
        | brk ρ3 st3 =>
          rw [e3] at q
          exact fun W3 H3 σ3 r3 p3 => q W3 H3 σ3 r3.kills (p1.trans p3)
        | ret d st3 => rw [e3] at q; exact q
        | exc c v ρ3 st3 => rw [e3] at q; exact XO.per p1 q
        | bad => rw [e3] at q; exact q
/-! ### comprehensions -/
/-- a comprehension's block -/
def Jx.blk (J : Jx) (s : Shared) (H : Hp) (scope : Scope) (cenv : PySem.Env) (fp : List Addr) : Jx where
  f := J.f
  A := J.A
  N := J.N
  s_0 := s
  H_0 := H
  env := cenv
  outer := J.stack
  stack := J.stack
  ex := fp
  fn := fun x => scope.names.lookup x == some .cell
  calm := J.calm
  pn := []
  xe := fun _ _ => False
  EW := fun _ _ _ _ _ _ => False
  lev := J.lev
  room := J.room
  gd := J.gd
  nd := J.nd
  tk := fun u s' ⟨_, _, _, _, _, _, _, _, _, _, _, _, _, _, _, _, h⟩ => by
    obtain ⟨_, _, _, _, _, _, _, h⟩ := h
    exact h
  po := PassesOwn.never
/-- a clause's tests -/
def MTs (J : Jx) (ifs : List Expr) (g : TF) : Prop := PTs J.X ifs (rdT J.f J.EW g)
theorem PTs.up {X : Cx} {e : List Expr} {t t' : TT} (h : PTs X e t) (k : ∀ σ H Q, t' σ H Q → t σ H Q) : PTs X e t' := ⟨fun pins s σ H Q I q => h.run pins s σ H Q I (k σ H Q q)⟩
theorem mts_nil : MTs J [] tYesF := PTs.up pts_nil fun σ H Q q => by
  obtain ⟨W, ρ, st, r, q⟩ := q
  exact q W H r (Step.refl ..)
theorem mts_one {g : TF} (h : MT J c g) : MTs J [c] g := pts_one h
theorem wipe_eq {σ : L2.St} : ∀ {vs : List Nat} {i : Nat} {x : V}, i ∈ vs → wipe (σ.set i (some x)) vs = wipe σ vs
  | [], _, _, h => by cases h
  | v :: vs, i, x, h => by
    show (wipe (σ.set i (some x)) vs).set v none = (wipe σ vs).set v none
    by_cases hi : i ∈ vs
    · rw [wipe_eq hi]
    · have e : i = v := by
        rcases List.mem_cons.mp h with h | h
        · exact h
        · exact absurd h hi
      subst e
      have : ∀ (ws : List Nat), i ∉ ws → wipe (σ.set i (some x)) ws = (wipe σ ws).set i (some x) := by
        intro ws
        induction ws with
        | nil => intro _; rfl
        | cons w ws ih =>
          intro hn
          have hw : i ≠ w := fun e => hn (e ▸ List.mem_cons_self ..)
          show (wipe (σ.set i (some x)) ws).set w none = ((wipe σ ws).set w none).set i (some x)
          rw [ih (fun q => hn (List.mem_cons_of_mem _ q)), List.set_comm _ _ hw]
      rw [this vs hi, List.set_set]
theorem wipe_many (vs : List Nat) : ∀ (is : List Nat) (xs : List V) (σ : L2.St), (∀ i ∈ is, i ∈ vs) → wipe (setMV (wipe σ vs) is xs) vs = wipe σ vs := by
  have gen : ∀ (is : List Nat) (xs : List V) (τ σ : L2.St), (∀ i ∈ is, i ∈ vs) → wipe τ vs = wipe σ vs → wipe (setMV τ is xs) vs = wipe σ vs := by
    intro is
    induction is with
    | nil => intro xs τ σ _ h; cases xs <;> exact h
    | cons i is ih =>
      intro xs τ σ hm h
      cases xs with
      | nil => exact h
      | cons x xs =>
        show wipe (setMV (τ.set i (some x)) is xs) vs = _
        exact ih xs _ σ (fun j hj => hm j (List.mem_cons_of_mem _ hj)) (by rw [wipe_eq (hm i (List.mem_cons_self ..))]; exact h)
  intro is xs σ hm
  refine gen is xs _ σ hm ?_
  cases vs with
  | nil => rfl
  | cons v vs =>
    apply List.ext_getElem?
    intro j
    by_cases hj : j ∈ v :: vs
    · have z : ∀ (τ : L2.St) (ws : List Nat), j ∈ ws → (wipe τ ws)[j]? = if j < τ.length then some none else none := by
        intro τ ws
        induction ws with
        | nil => intro h; cases h
        | cons w ws ih =>
          intro h
          show ((wipe τ ws).set w none)[j]? = _
          by_cases e : w = j
          · subst e
            rw [List.getElem?_set, wipe_length]
            simp
          · rw [List.getElem?_set_ne e]
            rcases List.mem_cons.mp h with h | h
            · exact absurd h.symm e
            · exact ih h
      rw [z _ _ hj, z _ _ hj, wipe_length]
    · rw [wipe_out hj, wipe_out hj]
/-- the slots that a target may store -/
def Pt.slots : Pt → List Nat
  | .n i => [i]
  | .t ps => go ps
where go : List Pt → List Nat
  | [] => []
  | p :: ps => p.slots ++ go ps
mutual
theorem pmat_slots : ∀ (p : Pt) (d : D) (as : List (Nat × D)), pmat p d = some as → ∀ i ∈ as.map (·.1), i ∈ p.slots
  | .n i, d, as, e => by
    simp only [pmat, Option.some.injEq] at e
    subst e
    intro j hj
    simpa [Pt.slots] using hj
  | .t ps, d, as, e => by
    cases d with
    | tup ds =>
      simp only [pmat] at e
      intro j hj
      exact pmats_slots ps ds as e j hj
    | lst ds =>
      simp only [pmat] at e
      intro j hj
      exact pmats_slots ps ds as e j hj
    | non => simp only [pmat] at e; cases e
    | bl _ => simp only [pmat] at e; cases e
    | int _ => simp only [pmat] at e; cases e
    | str _ => simp only [pmat] at e; cases e
    | ref _ => simp only [pmat] at e; cases e
    | scr _ => simp only [pmat] at e; cases e
    | dic _ _ => simp only [pmat] at e; cases e
theorem pmats_slots : ∀ (ps : List Pt) (ds : List D) (as : List (Nat × D)), pmats ps ds = some as → ∀ i ∈ as.map (·.1), i ∈ Pt.slots.go ps
  | [], [], as, e => by
    simp only [pmats, Option.some.injEq] at e
    subst e
    intro j hj
    cases hj
  | [], d :: ds, as, e => by simp only [pmats] at e; cases e
  | p :: ps, [], as, e => by simp only [pmats] at e; cases e
  | p :: ps, d :: ds, as, e => by
    simp only [pmats] at e
    cases e1 : pmat p d with
    | none => simp only [e1] at e; cases e
    | some a =>
      cases e2 : pmats ps ds with
      | none => simp only [e1, e2] at e; cases e
      | some b =>
        simp only [e1, e2, Option.some.injEq] at e
        subst e
        intro j hj
        rw [List.map_append, List.mem_append] at hj
        show j ∈ p.slots ++ Pt.slots.go ps
        rw [List.mem_append]
        rcases hj with hj | hj
        · exact .inl (pmat_slots p d a e1 j hj)
        · exact .inr (pmats_slots ps ds b e2 j hj)
end
theorem RelS.wipe {f : Fm} {X : List Addr} {W : Wd} {H : Hp} {st : Store} {σ : L2.St} {ρ : Env} (r : RelS f X W H σ ρ st) (is : List Nat) : RelS f X W H (L2.wipe σ is) (killE ρ is) st := by
  have gone : ∀ (is : List Nat) (ρ : Env) (i : Nat) (s : Sl), (killE ρ is)[i]? = some (some s) → ρ[i]? = some (some s) ∧ i ∉ is := by
    intro is
    induction is with
    | nil => intro ρ i s h; exact ⟨h, by simp⟩
    | cons j is ih =>
      intro ρ i s h
      obtain ⟨h1, h2⟩ := ih _ i s h
      by_cases e : j = i
      · subst e
        rw [List.getElem?_set] at h1
        simp at h1
      · rw [List.getElem?_set_ne e] at h1
        exact ⟨h1, by rw [List.mem_cons]; exact fun q => q.elim (fun q => e q.symm) h2⟩
  have len : ∀ (is : List Nat) (ρ : Env), (killE ρ is).length = ρ.length := by
    intro is
    induction is with
    | nil => intro ρ; rfl
    | cons j is ih => intro ρ; show (killE (ρ.set j none) is).length = _; rw [ih, List.length_set]
  obtain ⟨F, O, hX, h⟩ := r.own
  refine ⟨r.w0, r.wok, r.since, by rw [len, wipe_length]; exact r.len, F, O, by rw [len]; exact hX, fun i s e => ?_⟩
  obtain ⟨e1, e2⟩ := gone is ρ i s e
  obtain ⟨v, h1, h2⟩ := h i s e1
  exact ⟨v, by rw [wipe_out e2]; exact h1, h2⟩
theorem WOk.wr {K : PySem.W.Frag} {W : Wd} {H : Hp} {st : Store} (w : WOk K W H st) {a : Addr} (hz : ¬ W.Z a) (hp : a ∉ W.φ) (o : HO) : Per W H W (upd H a o) ∧ WOk K W (upd H a o) st := by
  have p : Per W H W (upd H a o) := ⟨fun _ h => h, fun b h => upd_ne fun e => hz (e ▸ h), [], by simp⟩
  refine ⟨p, w.len, w.nd, w.nz, fun i b ds h1 h2 => ?_, fun b h => by rw [p.h b h]; exact w.zok b h⟩
  obtain ⟨vs, e1, e2⟩ := w.obj i b ds h1 h2
  have ne : b ≠ a := by
    intro e
    subst e
    exact hp (List.mem_of_getElem? h1)
  exact ⟨vs, by rw [upd_ne ne]; exact e1, Dats.per p _ _ e2⟩
theorem Step.wr {W W' : Wd} {H H' : Hp} (s : Step W H W' H') {a : Addr} (h : H a = none) (hz : ¬ W'.Z a) (o : HO) : Step W H W' (upd H' a o) := by
  refine ⟨⟨s.z, fun b hb => ?_, s.φ⟩, fun b h1 h2 h3 => ?_⟩
  · have ne : b ≠ a := by
      intro e
      subst e
      exact hz (s.z b hb)
    rw [upd_ne ne]
    exact s.h b hb
  · obtain ⟨k1, k2, k3⟩ := s.keep b h1 h2 h3
    have ne : b ≠ a := by
      intro e
      subst e
      exact h1 h
    exact ⟨by rw [upd_ne ne]; exact k1, k2, k3⟩
section
variable {f : Fm} {X : List Addr} {W : Wd} {H : Hp} {st : Store} {σ : L2.St} {ρ : Env}
theorem RelS.dropX (r : RelS f X W H σ ρ st) : RelS f [] W H σ ρ st := by
  obtain ⟨F, O, hX, h⟩ := r.own
  refine ⟨r.w0, r.wok, r.since, r.len, _, O.drop ρ.length, by simp, fun j sl e => ?_⟩
  have hl : j < ρ.length := (List.getElem?_eq_some_iff.mp e).1
  simp only [show ¬ j = ρ.length by omega, if_false]
  exact h j sl e
theorem RelS.inX (r : RelS f X W H σ ρ st) {a : Addr} (ha : a ∈ X) : f.H0 a = none ∧ H a ≠ none ∧ ¬ W.Z a ∧ a ∉ W.φ := by
  obtain ⟨F, O, hX, h⟩ := r.own
  exact O.ok _ a (hX ▸ ha)
/-- a cell that is owned in no slot is written -/
theorem RelS.wrX (r : RelS f X W H σ ρ st) {a : Addr} (ha : a ∈ X) (o : HO) : RelS f X W (upd H a o) σ ρ st := by
  obtain ⟨F, O, hX, h⟩ := r.own
  have ma : a ∈ F ρ.length := by rw [hX]; exact ha
  obtain ⟨o1, o2, o3, o4⟩ := O.ok _ a ma
  obtain ⟨p, w⟩ := r.wok.wr o3 o4 o
  refine ⟨r.w0, w, r.since.wr o1 o3 o, r.len, F, ⟨fun j b hb => ?_, O.nd, O.ap⟩, hX, fun j sl e => ?_⟩
  · obtain ⟨h1, h2, h3, h4⟩ := O.ok j b hb
    refine ⟨h1, ?_, h3, h4⟩
    by_cases e : b = a
    · rw [e, upd_same]; simp
    · rw [upd_ne e]; exact h2
  · have hl : j < ρ.length := (List.getElem?_eq_some_iff.mp e).1
    obtain ⟨v, h1, h2⟩ := h j sl e
    refine ⟨v, h1, h2.per p fun b hb => upd_ne fun e2 => ?_⟩
    subst e2
    have := O.ap _ _ _ hb ma
    omega
end
theorem lc_read {fi : IF} {p : Pt} {ft : TF} {fe : EF} {own : List (Str × Nat)} (hsl : ∀ i ∈ p.slots, i ∈ own.map (·.2)) {σ : L2.St} {H : Hp} {Q : VK} (q : rdL J.f J.EW (lComp fi p ft fe (own.map (·.2))) σ H Q) :
    tLc (rdI J.f J.EW fi) (rdP J p) (rdT J.f (fun _ _ _ _ _ _ => False) ft) (rdE J.f (fun _ _ _ _ _ _ => False) fe) (own.map (·.2)) σ H Q := by
  obtain ⟨W, ρ, st, r, q⟩ := q
  refine ⟨W, ρ, st, r, ?_⟩
  unfold lComp at q
  cases e : fi ρ st with
  | exc c v st2 => rw [e] at q; first | exact q | exact XO.per s1.toPer q | exact XO.per (s1.trans s2).toPer q | exact XO.per ((s1.trans s2).trans s3).toPer q
  | bad => rw [e] at q; exact q
  | ok ds st1 =>
    rw [e] at q
    simp only [Out.bind_ok] at q
    by_cases hz : ds.length ≤ szL
    rotate_left
    · rw [if_neg hz] at q; exact q.elim
    rw [if_pos hz] at q
    intro W1 H1 I r1 s1 hI D hD
    have hHD : H D = none := Step.fr r.wok r1.wok s1 hD
    let vs := own.map (·.2)
    -- what is still to be made, and what is made
    refine ⟨fun i m H' => ∃ W' st' acc dacc, RelS J.f [D] W' H' σ ρ st' ∧ Step W1 H1 W' H' ∧ H' D = some (.lst acc) ∧ Dats J.f.T.K W' H' dacc acc ∧ acc.length ≤ i ∧ m = ds.length - i ∧ i ≤ ds.length ∧
        (match (compL p ft fe (killE ρ vs) (ds.drop i) st').bind fun xs st2 => .ok (dacc ++ xs) st2 with
          | .ok ds st' => ∀ W' H' a vs, RelS J.f [a] W' H' σ ρ st' → Step W H W' H' → H a = none → H' a = some (.lst vs) → Dats J.f.T.K W' H' ds vs → Q (.ref a) H'
          | .exc c v st' => XO J.EW W H ρ st' c v
          | .bad => False), ⟨ds.length, W1, st1, [], [], r1.claim hD (r1.wok.own hD _), Step.own r1.wok hD _, upd_same, rfl, Nat.le_refl _, rfl, Nat.zero_le _, ?_⟩, ?_⟩
    · simp only [List.nil_append, List.drop_zero]
      cases e2 : compL p ft fe (killE ρ vs) ds st1 with
      | ok xs st2 => rw [show compL p ft fe (killE ρ (own.map (·.2))) ds st1 = _ from e2] at q; exact q
      | exc c v st2 => rw [show compL p ft fe (killE ρ (own.map (·.2))) ds st1 = _ from e2] at q; first | exact q | exact XO.per s1.toPer q | exact XO.per (s1.trans s2).toPer q | exact XO.per ((s1.trans s2).trans s3).toPer q
      | bad => rw [show compL p ft fe (killE ρ (own.map (·.2))) ds st1 = _ from e2] at q; exact q
    rintro i m H' ⟨W', st', acc, dacc, r', s', hA, hd, hacc, rfl, hle, q⟩
    have own' := r'.inX (List.mem_singleton.mpr rfl)
    by_cases hlt : i < ds.length
    · refine .inr ⟨hI.go W' H' st' s'.toPer r'.wok i hlt, fun H2 => ∃ W' st' acc dacc, RelS J.f [D] W' H2 σ ρ st' ∧ Step W1 H1 W' H2 ∧ H2 D = some (.lst acc) ∧ Dats J.f.T.K W' H2 dacc acc ∧ acc.length ≤ i + 1 ∧
        (match (compL p ft fe (killE ρ vs) (ds.drop (i + 1)) st').bind fun xs st2 => .ok (dacc ++ xs) st2 with
          | .ok ds st' => ∀ W' H' a vs, RelS J.f [a] W' H' σ ρ st' → Step W H W' H' → H a = none → H' a = some (.lst vs) → Dats J.f.T.K W' H' ds vs → Q (.ref a) H'
          | .exc c v st' => XO J.EW W H ρ st' c v
          | .bad => False), fun H2 ⟨W2, st2, ac, dac, h1, h2, h3, h4, h5, h6⟩ => ⟨ds.length - (i + 1), by omega, W2, st2, ac, dac, h1, h2, h3, h4, h5, rfl, hlt, h6⟩, fun x H2 y => ?_⟩
      obtain ⟨W2, s2, w2, hx⟩ := hI.yld W' H' st' s'.toPer r'.wok i ds[i] x H2 (List.getElem?_eq_getElem hlt) y
      have r2 : RelS J.f [] W2 H2 (wipe σ vs) (killE ρ vs) st' := (r'.step s2 w2).dropX.wipe vs
      rw [List.drop_eq_getElem_cons hlt] at q
      unfold compL at q
      cases e2 : pmat p ds[i] with
      | none => rw [e2] at q; exact q.elim
      | some as =>
        rw [e2] at q
        simp only at q
        refine ⟨W2, st', ds[i], as, w2, hx, e2, fun us hv => ⟨wipe_many vs _ _ _ fun j hj => hsl j (pmat_slots p _ _ e2 j hj), W2, _, st', r2.setMany hv, ?_⟩⟩
        cases e3 : ft (setMany (killE ρ vs) as) st' with
        | exc c v st3 => rw [e3] at q; exact q.elim
        | bad => rw [e3] at q; exact q
        | ok k st3 =>
          rw [e3] at q
          simp only [Out.nx_ok, Out.bind_ok] at q
          intro W3 H3 r3 s3
          cases k with
          | false =>
            rw [if_neg (by simp)] at q ⊢
            have S := s2.trans s3
            obtain ⟨k1, k2, k3⟩ := S.keep D own'.2.1 own'.2.2.1 own'.2.2.2
            exact ⟨W3, st3, acc, dacc, r'.step S r3.wok, s'.trans S, by rw [k1]; exact hA, Dats.per S.toPer _ _ hd, by omega, q⟩
          | true =>
            rw [if_pos rfl] at q ⊢
            refine ⟨W3, _, st3, r3, ?_⟩
            unfold eTake at q
            cases e4 : fe (setMany (killE ρ vs) as) st3 with
            | exc c v st4 => rw [e4] at q; exact q.elim
            | bad => rw [e4] at q; exact q
            | ok z st4 =>
              rw [e4] at q
              simp only [Out.bind_ok] at q
              intro W4 H4 v4 r4 s4 h4
              cases e5 : dOf z with
              | none => rw [e5] at q; exact q.elim
              | some d =>
                rw [e5] at q
                simp only [Out.of_some, Out.nx_ok, Out.bind_ok] at q
                have S := (s2.trans s3).trans s4
                obtain ⟨k1, k2, k3⟩ := S.keep D own'.2.1 own'.2.2.1 own'.2.2.2
                have rr := r'.step S r4.wok
                have hA4 : H4 D = some (.lst acc) := by rw [k1]; exact hA
                have pw := (r4.wok.wr k2 k3 (.lst (acc ++ [v4]))).1
                refine ⟨acc, hA4, ?_, W4, st4, acc ++ [v4], dacc ++ [d], rr.wrX (List.mem_singleton.mpr rfl) _, (s'.trans S).wr hD k2 _, upd_same,
                  (Dats.per pw _ _ (Dats.per S.toPer _ _ hd)).append (Dats.cons (Dat.per pw _ _ (h4.dat e5)) rfl), by simp; omega, ?_⟩
                · have : sizeLine = szL := rfl
                  omega
                · cases e6 : compL p ft fe (killE ρ vs) (ds.drop (i + 1)) st4 with
                  | ok xs st5 => rw [e6] at q; simp only [Out.bind_ok] at q ⊢; rw [List.append_assoc]; exact q
                  | exc c v st5 => rw [e6] at q; first | exact q | exact XO.per s1.toPer q | exact XO.per (s1.trans s2).toPer q | exact XO.per ((s1.trans s2).trans s3).toPer q
                  | bad => rw [e6] at q; exact q
    · have e0 : ds.drop i = [] := List.drop_eq_nil_of_le (by omega)
      rw [e0] at q
      simp only [compL, Out.bind_ok, List.append_nil] at q
      have ei : i = ds.length := by omega
      subst ei
      exact .inl ⟨hI.stop W' H' st' s'.toPer r'.wok, q W' H' D acc r' (s1.trans s') hHD hA hd⟩
theorem ml_comp {elt tg iter : Expr} {ifs : List Expr} {scope : Scope} {own : List (Str × Nat)} {fi : IF} {p : Pt} {ft : TF} {fe : EF} (hc : J.calm = true) (hi : MI J tg iter fi) (ok : BlkOk J.X.N J.X.env.scope scope own)
    (hp : ∀ (s : Shared) (H : Hp) (C : Addr) (cl : List (Str × Addr)) (fp : List Addr), MP (J.blk s H scope (compEnvC scope cl C J.X.env) fp) tg p)
    (ht : ∀ (s : Shared) (H : Hp) (C : Addr) (cl : List (Str × Addr)) (fp : List Addr), MTs (J.blk s H scope (compEnvC scope cl C J.X.env) fp) ifs ft)
    (he : ∀ (s : Shared) (H : Hp) (C : Addr) (cl : List (Str × Addr)) (fp : List Addr), ME (J.blk s H scope (compEnvC scope cl C J.X.env) fp) elt fe)
    (hsl : ∀ i ∈ p.slots, i ∈ own.map (·.2) := by decide) (hs : ∀ x, foldedSetIterable iter J.X.env x = pure x := by intro _; rfl) : ML J (.ListComp elt [⟨tg, iter, ifs, 0⟩] scope pos) (lComp fi p ft fe (own.map (·.2))) := by
  exact PE.up (pe_lc (X := J.X) (g := rdP J p) (tt := rdT J.f (fun _ _ _ _ _ _ => False) ft) (te := rdE J.f (fun _ _ _ _ _ _ => False) fe) hc J.nd hi ok hp ht he hs) fun σ H Q q => lc_read hsl q
/-- x = [..] on one line, shared from now on -/
theorem ms_setLc (i : Nat) {y : Str} {py spos : Pos} {elt tg iter : Expr} {ifs : List Expr} {scope : Scope} {own : List (Str × Nat)} {fi : IF} {p : Pt} {ft : TF} {fe : EF} (hc : J.calm = true) (hi : MI J tg iter fi) (ok : BlkOk J.X.N J.X.env.scope scope own)
    (hp : ∀ (s : Shared) (H : Hp) (C : Addr) (cl : List (Str × Addr)) (fp : List Addr), MP (J.blk s H scope (compEnvC scope cl C J.X.env) fp) tg p)
    (ht : ∀ (s : Shared) (H : Hp) (C : Addr) (cl : List (Str × Addr)) (fp : List Addr), MTs (J.blk s H scope (compEnvC scope cl C J.X.env) fp) ifs ft)
    (he : ∀ (s : Shared) (H : Hp) (C : Addr) (cl : List (Str × Addr)) (fp : List Addr), ME (J.blk s H scope (compEnvC scope cl C J.X.env) fp) elt fe)
    (hN : J.X.N[i]? = some y := by rfl) (hy : J.X.env.scope.names.lookup y = some .local := by rfl) (hsw : swapsWith (.ListComp elt [⟨tg, iter, ifs, 0⟩] scope pos) (some (.Name y py)) spos.line J.X.env = pure true := by rfl)
    (hsl : ∀ i ∈ p.slots, i ∈ own.map (·.2) := by decide) (hs : ∀ x, foldedSetIterable iter J.X.env x = pure x := by intro _; rfl) : MS J (.Assign [.Name y py] (.ListComp elt [⟨tg, iter, ifs, 0⟩] scope pos) spos) (sSet i (eLst (lComp fi p ft fe (own.map (·.2))))) :=
  PS.up (ps_setLc (X := J.X) (g := rdP J p) (tt := rdT J.f (fun _ _ _ _ _ _ => False) ft) (te := rdE J.f (fun _ _ _ _ _ _ => False) fe) hc J.nd hN hy hsw hi ok hp ht he hs) fun D σ H q => lc_read hsl (frz_read (set_read q))
/-- .. kept as the frame's own -/
theorem ms_ownLc (i : Nat) {y : Str} {py spos : Pos} {elt tg iter : Expr} {ifs : List Expr} {scope : Scope} {own : List (Str × Nat)} {fi : IF} {p : Pt} {ft : TF} {fe : EF} (hc : J.calm = true) (hi : MI J tg iter fi) (ok : BlkOk J.X.N J.X.env.scope scope own)
    (hp : ∀ (s : Shared) (H : Hp) (C : Addr) (cl : List (Str × Addr)) (fp : List Addr), MP (J.blk s H scope (compEnvC scope cl C J.X.env) fp) tg p)
    (ht : ∀ (s : Shared) (H : Hp) (C : Addr) (cl : List (Str × Addr)) (fp : List Addr), MTs (J.blk s H scope (compEnvC scope cl C J.X.env) fp) ifs ft)
    (he : ∀ (s : Shared) (H : Hp) (C : Addr) (cl : List (Str × Addr)) (fp : List Addr), ME (J.blk s H scope (compEnvC scope cl C J.X.env) fp) elt fe)
    (hN : J.X.N[i]? = some y := by rfl) (hy : J.X.env.scope.names.lookup y = some .local := by rfl) (hsw : swapsWith (.ListComp elt [⟨tg, iter, ifs, 0⟩] scope pos) (some (.Name y py)) spos.line J.X.env = pure true := by rfl)
    (hsl : ∀ i ∈ p.slots, i ∈ own.map (·.2) := by decide) (hs : ∀ x, foldedSetIterable iter J.X.env x = pure x := by intro _; rfl) : MS J (.Assign [.Name y py] (.ListComp elt [⟨tg, iter, ifs, 0⟩] scope pos) spos) (sOwn i (lComp fi p ft fe (own.map (·.2)))) :=
  PS.up (ps_setLc (X := J.X) (g := rdP J p) (tt := rdT J.f (fun _ _ _ _ _ _ => False) ft) (te := rdE J.f (fun _ _ _ _ _ _ => False) fe) hc J.nd hN hy hsw hi ok hp ht he hs) fun D σ H q => lc_read hsl (own_read q)
end
end DL

/-! DLK: lists changed in place. -/
namespace DL
open PySem L2 PySem.Spec PyProof.Rows

section
variable {f : Fm} {X : List Addr} {W : Wd} {H : Hp} {st : Store} {σ : L2.St} {ρ : Env}
theorem RelS.wrS (r : RelS f [] W H σ ρ st) {i : Nat} {xs ys : List D} (hi : ρ[i]? = some (some (.o1 xs))) {a : Addr} (ha : σ[i]? = some (some (.ref a))) {us : List V} (hd : Dats f.T.K W H ys us) :
    RelS f [] W (upd H a (.lst us)) σ (ρ.set i (some (.o1 ys))) st ∧ Per W H W (upd H a (.lst us)) := by
  obtain ⟨F, O, hX, h⟩ := r.own
  obtain ⟨v, e1, e2⟩ := h i _ hi
  rw [ha] at e1
  cases e1
  obtain ⟨a', vs, e3, e4, e5, e6⟩ := e2
  cases e3
  have ma : a ∈ F i := by rw [e4]; exact List.mem_singleton.mpr rfl
  obtain ⟨o1, o2, o3, o4⟩ := O.ok _ a ma
  obtain ⟨p, w⟩ := r.wok.wr o3 o4 (.lst us)
  have hl : i < ρ.length := (List.getElem?_eq_some_iff.mp hi).1
  refine ⟨⟨r.w0, w, r.since.wr o1 o3 _, by rw [List.length_set]; exact r.len, F, ⟨fun j b hb => ?_, O.nd, O.ap⟩, by rw [List.length_set]; exact hX, fun j sl e => ?_⟩, p⟩
  · obtain ⟨h1, h2, h3, h4⟩ := O.ok j b hb
    refine ⟨h1, ?_, h3, h4⟩
    by_cases e : b = a
    · rw [e, upd_same]; simp
    · rw [upd_ne e]; exact h2
  · by_cases e7 : j = i
    · subst e7
      rw [List.getElem?_set_self hl] at e
      cases e
      exact ⟨.ref a, ha, a, us, rfl, e4, upd_same, Dats.per p _ _ hd⟩
    · rw [List.getElem?_set_ne (fun z => e7 z.symm)] at e
      obtain ⟨v, h1, h2⟩ := h j sl e
      refine ⟨v, h1, h2.per p fun b hb => upd_ne fun e2 => ?_⟩
      subst e2
      exact e7 (O.ap _ _ _ hb ma)
theorem RelS.wrR (r : RelS f [] W H σ ρ st) {n : Nat} {ys : List D} {a : Addr} (ha : W.φ[n]? = some a) {us : List V} (hd : Dats f.T.K W H ys us) :
    RelS f [] W (upd H a (.lst us)) σ ρ (st.set n ys) ∧ Per W H W (upd H a (.lst us)) := by
  obtain ⟨F, O, hX, h⟩ := r.own
  obtain ⟨p, w⟩ := r.wok.upd_at ha hd
  have mem : a ∈ W.φ := List.mem_of_getElem? ha
  refine ⟨⟨r.w0, w, ⟨r.since.toPer.trans p, fun b h1 h2 h3 => ?_⟩, r.len, F, ⟨fun j b hb => ?_, O.nd, O.ap⟩, hX, fun j sl e => ?_⟩, p⟩
  · obtain ⟨k1, k2, k3⟩ := r.since.keep b h1 h2 h3
    have ne : b ≠ a := by
      intro e
      subst e
      exact k3 mem
    exact ⟨by rw [upd_ne ne]; exact k1, k2, k3⟩
  · obtain ⟨h1, h2, h3, h4⟩ := O.ok j b hb
    have ne : b ≠ a := by
      intro e
      subst e
      exact h4 mem
    exact ⟨h1, by rw [upd_ne ne]; exact h2, h3, h4⟩
  · obtain ⟨v, h1, h2⟩ := h j sl e
    refine ⟨v, h1, h2.per p fun b hb => ?_⟩
    have ne : b ≠ a := by
      intro e
      subst e
      exact (O.ok j b hb).2.2.2 mem
    exact upd_ne ne
end
/-- a method that changes a list, by data -/
def rMu (K : PySem.W.Frag) (g : MutF) : V → List V → Hp → VK → Prop := fun x vs H Q => ∃ W l xs dxs ds ys d, x = .ref l ∧ H l = some (.lst xs) ∧ Dats K W H dxs xs ∧ Dats K W H ds vs ∧ g dxs ds = some (ys, d) ∧
  ∀ us v, Dats K W H ys us → Dat K W H d v → Q v (upd H l (.lst us))
section
variable {J : Jx} {a b c e : Expr} {fa fb fc : EF} {pos : Pos}
theorem mu_append : MtR J.X "list.append" (rMu J.f.T.K appD) := by
  intro pins s σ H x xs v us Q I rx rv h
  obtain ⟨W, l, vs, dxs, ds, ys, d, e1, e2, e3, e4, e5, q⟩ := h
  unfold appD at e5
  split at e5
  · rename_i d1
    split at e5
    · rename_i hl
      cases e5
      obtain ⟨y, r, h1, h2, h3⟩ := e4
      have h3 : r = [] := h3
      subst h1 h3
      exact mt_append pins s σ H x [y] v us Q I rx rv ⟨l, vs, y, e1, rfl, e2, by rw [← e3.len]; exact hl, q _ _ (e3.append (Dats.cons h2 rfl)) rfl⟩
    · cases e5
  · cases e5
theorem mu_pop : MtR J.X "list.pop" (rMu J.f.T.K popD) := by
  intro pins s σ H x xs v us Q I rx rv h
  obtain ⟨W, l, vs, dxs, ds, ys, d, e1, e2, e3, e4, e5, q⟩ := h
  unfold popD at e5
  split at e5
  · have e4 : xs = [] := e4
    subst e4
    cases e6 : dxs[dxs.length - 1]? with
    | none => rw [e6] at e5; cases e5
    | some d1 =>
      rw [e6] at e5
      cases e5
      obtain ⟨y, h1, h2⟩ := e3.get e6
      refine mt_pop pins s σ H x [] v us Q I rx rv ⟨l, vs, y, e1, rfl, e2, by rw [← e3.len]; exact h1, q _ _ ?_ h2⟩
      rw [List.dropLast_eq_take, List.dropLast_eq_take, ← e3.len]
      exact e3.take _
  · cases e5
theorem ixD_seq {n : Nat} {i : Int} {j : Nat} (h : ixD n i = some j) : seqIndex? i n = some j ∧ j < n ∧ -(n : Int) ≤ i ∧ i < n := ixN_seq h
theorem mu_popAt : MtR J.X "list.pop" (rMu J.f.T.K popAtD) := by
  intro pins s σ H x xs v us Q I rx rv h
  obtain ⟨W, l, vs, dxs, ds, ys, d, e1, e2, e3, e4, e5, q⟩ := h
  unfold popAtD at e5
  split at e5
  · rename_i i
    obtain ⟨y, r, h1, h2, h3⟩ := e4
    have h3 : r = [] := h3
    have h2 : y = .int i := h2
    subst h1 h2 h3
    cases e6 : ixD dxs.length i with
    | none => rw [e6] at e5; cases e5
    | some k =>
      rw [e6] at e5
      simp only [Option.bind_some] at e5
      cases e7 : dxs[k]? with
      | none => rw [e7] at e5; cases e5
      | some d1 =>
        rw [e7] at e5
        cases e5
        obtain ⟨z, h4, h5⟩ := e3.get e7
        obtain ⟨k1, k2, k3, k4⟩ := ixD_seq e6
        have hb := (I.lstM e2).1
        have hs : sizeLine = 16777216 := rfl
        have hlen := e3.len
        refine mt_popAt pins s σ H x [.int i] v us Q I rx rv ⟨l, vs, i, k, z, e1, rfl, e2, by omega, by omega, by rw [← e3.len]; exact k1, h4, q _ _ (e3.eraseIdx k) h5⟩
  · cases e5
theorem mu_reverse : MtR J.X "list.reverse" (rMu J.f.T.K revD) := by
  intro pins s σ H x xs v us Q I rx rv h
  obtain ⟨W, l, vs, dxs, ds, ys, d, e1, e2, e3, e4, e5, q⟩ := h
  unfold revD at e5
  split at e5
  · have e4 : xs = [] := e4
    subst e4
    cases e5
    exact mt_reverse pins s σ H x [] v us Q I rx rv ⟨l, vs, e1, rfl, e2, q _ _ e3.reverse rfl⟩
  · cases e5
theorem mu_insert : MtR J.X "list.insert" (rMu J.f.T.K insD) := by
  intro pins s σ H x xs v us Q I rx rv h
  obtain ⟨W, l, vs, dxs, ds, ys, d, e1, e2, e3, e4, e5, q⟩ := h
  unfold insD at e5
  split at e5
  · rename_i i d1
    split at e5
    · rename_i hl
      cases e5
      obtain ⟨y, r, h1, h2, h3⟩ := e4
      obtain ⟨z, r2, h4, h5, h6⟩ := h3
      have h6 : r2 = [] := h6
      have h2 : y = .int i := h2
      subst h1 h2 h4 h6
      refine mt_insert pins s σ H x [.int i, z] v us Q I rx rv ⟨l, vs, i, z, e1, rfl, e2, by rw [← e3.len]; exact hl.1, hl.2.1, by omega, q _ _ ?_ rfl⟩
      rw [List.append_assoc]
      exact (e3.take _).append (Dats.cons h5 (e3.drop _))
    · cases e5
  · cases e5
/-- x.m(..) that changes the list x -/
def rdX (f : Fm) (EW : XW) (g : XF) : TE := fun σ H Q => ∃ W ρ st, RelS f [] W H σ ρ st ∧ match g ρ st with
  | .ok (d, ρ') st' => ∀ W' H' v, RelS f [] W' H' σ ρ' st' → Per W H W' H' → Dat f.T.K W' H' d v → Q v H'
  | .exc c v st' => XO EW W H ρ st' c v
  | .bad => False
def MX (J : Jx) (e : Expr) (g : XF) : Prop := PE J.X e (rdX J.f J.EW g)
theorem rdX_mut {i : Nat} {g : MutF} {ga : AF} {σ : L2.St} {H : Hp} {Q : VK} (h : rdX J.f J.EW (xMut g i ga) σ H Q) : ∃ x, σ[i]? = some (some x) ∧ tyV J.f.T.K "list" x H ∧ rdA J.f J.EW ga σ H fun vs H2 => rMu J.f.T.K g x vs H2 Q := by
  obtain ⟨W, ρ, st, r, h⟩ := h
  obtain ⟨F, O, hX, hs⟩ := r.own
  unfold xMut at h
  rcases hi : ρ[i]? with _ | _ | s
  · rw [hi] at h; exact h.elim
  · rw [hi] at h; exact h.elim
  · obtain ⟨v, e1, e2⟩ := hs i s hi
    cases s with
    | o2 xss => rw [hi] at h; exact h.elim
    | exn c d => rw [hi] at h; exact h.elim
    | o1 xs =>
      obtain ⟨a, vs, e3, e4, e5, e6⟩ := id e2
      subst e3
      simp only [hi] at h
      refine ⟨_, e1, .inl ⟨rfl, vs, .of e5⟩, W, ρ, st, r, ?_⟩
      cases e : ga ρ st with
      | exc c v st2 => rw [e] at h; first | exact h | exact XO.per s1.toPer h | exact XO.per (s1.trans s2).toPer h | exact XO.per ((s1.trans s2).trans s3).toPer h
      | bad => rw [e] at h; exact h
      | ok ds st1 =>
        rw [e] at h
        simp only [Out.bind_ok] at h
        intro W1 H1 us r1 s1 h1
        cases e7 : g xs ds with
        | none => rw [e7] at h; exact h.elim
        | some yd =>
          obtain ⟨ys, d⟩ := yd
          rw [e7] at h
          simp only at h
          obtain ⟨o1, o2, o3, o4⟩ := O.ok i a (by rw [e4]; exact List.mem_singleton.mpr rfl)
          obtain ⟨k1, k2, k3⟩ := s1.keep a o2 o3 o4
          refine ⟨W1, a, vs, xs, ds, ys, d, rfl, by rw [k1]; exact e5, Dats.per s1.toPer _ _ e6, h1, e7, fun us' v hu hv => ?_⟩
          obtain ⟨r2, p2⟩ := r1.wrS hi e1 hu
          exact h W1 _ v r2 (s1.toPer.trans p2) (Dat.per p2 _ _ hv)
    | sh d0 =>
      cases d0 with
      | ref n =>
        obtain ⟨_, a, e3, e4⟩ := id e2
        subst e3
        simp only [hi] at h
        have hl : n < st.length := by
          rw [← r.wok.len]
          exact (List.getElem?_eq_some_iff.mp e4).1
        obtain ⟨vs0, g1, g2⟩ := r.wok.obj n a st[n] e4 (List.getElem?_eq_getElem hl)
        refine ⟨_, e1, .inl ⟨rfl, vs0, .of g1⟩, W, ρ, st, r, ?_⟩
        cases e : ga ρ st with
        | exc c v st2 => rw [e] at h; first | exact h | exact XO.per s1.toPer h | exact XO.per (s1.trans s2).toPer h | exact XO.per ((s1.trans s2).trans s3).toPer h
        | bad => rw [e] at h; exact h
        | ok ds st1 =>
          rw [e] at h
          simp only [Out.bind_ok] at h
          intro W1 H1 us r1 s1 h1
          cases e8 : st1[n]? with
          | none => rw [e8] at h; exact h.elim
          | some xs =>
            rw [e8] at h
            simp only at h
            cases e7 : g xs ds with
            | none => rw [e7] at h; exact h.elim
            | some yd =>
              obtain ⟨ys, d⟩ := yd
              rw [e7] at h
              simp only at h
              have hn := s1.toPer.get e4
              obtain ⟨vs, g3, g4⟩ := r1.wok.obj n a xs hn e8
              refine ⟨W1, a, vs, xs, ds, ys, d, rfl, g3, g4, h1, e7, fun us' v hu hv => ?_⟩
              obtain ⟨r2, p2⟩ := r1.wrR hn hu
              exact h W1 _ v r2 (s1.toPer.trans p2) (Dat.per p2 _ _ hv)
      | non => rw [hi] at h; exact h.elim
      | bl _ => rw [hi] at h; exact h.elim
      | int _ => rw [hi] at h; exact h.elim
      | str _ => rw [hi] at h; exact h.elim
      | tup _ => rw [hi] at h; exact h.elim
      | lst _ => rw [hi] at h; exact h.elim
      | scr _ => rw [hi] at h; exact h.elim
      | dic _ _ => rw [hi] at h; exact h.elim
theorem mx_mut (i : Nat) {x : Str} {p : Pos} {name : Str} {id : String} {es : List Expr} {apos cpos : Pos} {g : MutF} {ga : AF} (hm : MtR J.X id (rMu J.f.T.K g)) (slot : Slot "list" name id) (hty : typeOf (.builtin id) = pure (.type "method_descriptor")) (ha : MA J (e :: es) ga)
    (hN : J.X.N[i]? = some x := by rfl) (hv : Vis J.X.env.scope x := by first | exact Or.inl rfl | exact Or.inr (Or.inl rfl) | exact Or.inr (Or.inr rfl)) (hd : (x == ("__debug__" : Str)) = false := by decide) (hcd : (x == ("__classdict__" : Str)) = false := by decide)
    (hbase : attributeBase (.Name x p) name J.X.env (eval (.Name x p) J.X.env) = eval (.Name x p) J.X.env := by rfl)
    (hfew : ((backTo cpos (starEach (e :: es) J.X.env)).all (fun x => !x.1) && (backToKw cpos (keywordEach [] J.X.env)).all (fun x => x.1.isSome)
      && decide ((e :: es).length + ([] : List Keyword).length + (if ([] : List Keyword).isEmpty then 0 else 1) < 30)) = true := by rfl)
    (hline : (apos.endLine == cpos.line) = true := by rfl) (hs : starEach (e :: es) J.X.env = (false, eval e J.X.env) :: starEach es J.X.env := by rfl) (hplain : (backTo cpos (starEach es J.X.env)).any (·.1) = false := by rfl) :
    MX J (.Call (.Attribute (.Name x p) name apos) (e :: es) [] cpos) (xMut g i ga) := by
  refine PE.up (pe_bm PySem.F.plainAttrs_list slot hty hm (pe_var hN hv hd hcd) ha.1 hbase hfew hline hs hplain) fun σ H Q h => ?_
  obtain ⟨v, e1, e2, e3⟩ := rdX_mut h
  exact ⟨v, e1, e2, e3⟩
theorem mx_mut0 (i : Nat) {x : Str} {p : Pos} {name : Str} {id : String} {apos cpos : Pos} {g : MutF} (hm : MtR J.X id (rMu J.f.T.K g)) (slot : Slot "list" name id) (hty : typeOf (.builtin id) = pure (.type "method_descriptor"))
    (hN : J.X.N[i]? = some x := by rfl) (hv : Vis J.X.env.scope x := by first | exact Or.inl rfl | exact Or.inr (Or.inl rfl) | exact Or.inr (Or.inr rfl)) (hd : (x == ("__debug__" : Str)) = false := by decide) (hcd : (x == ("__classdict__" : Str)) = false := by decide)
    (hbase : attributeBase (.Name x p) name J.X.env (eval (.Name x p) J.X.env) = eval (.Name x p) J.X.env := by rfl) (hline : (apos.endLine == cpos.line) = true := by rfl) :
    MX J (.Call (.Attribute (.Name x p) name apos) [] [] cpos) (xMut g i aNil) := by
  refine PE.up (pe_bm0 PySem.F.plainAttrs_list slot hty hm (pe_var hN hv hd hcd) hbase hline) fun σ H Q h => ?_
  obtain ⟨v, e1, e2, e3⟩ := rdX_mut h
  refine ⟨v, e1, e2, ?_⟩
  obtain ⟨W, ρ, st, r, q⟩ := e3
  exact q W H [] r (Step.refl ..) rfl
theorem ms_x {g : XF} (h : MX J e g) (hs : swapsWith e none pos.line J.X.env = pure false := by rfl) : MS J (.Expr e pos) (sX g) := by
  refine PS.up (ps_expr h hs) fun D σ H q => ?_
  obtain ⟨W, ρ, st, r, q⟩ := q
  refine ⟨W, ρ, st, r, ?_⟩
  unfold sX at q
  cases e : g ρ st with
  | exc c v st2 => rw [e] at q; first | exact q | exact XO.per s1.toPer q | exact XO.per (s1.trans s2).toPer q | exact XO.per ((s1.trans s2).trans s3).toPer q
  | bad => rw [e] at q; exact q
  | ok y st1 =>
    rw [e] at q
    obtain ⟨d, ρ'⟩ := y
    exact fun W1 H1 v r1 p1 _ => q W1 H1 σ r1 p1
theorem ms_setX (i : Nat) {x : Str} {py : Pos} {g : XF} (he : MX J e g) (hi : J.X.N[i]? = some x := by rfl) (hx : Loc J.X.env.scope x := by first | exact Or.inl rfl | exact Or.inr rfl) (hs : swapsWith e (some (.Name x py)) pos.line J.X.env = pure false := by rfl)
    (hf : J.X.fn x = true ∨ J.X.env.scope.names.lookup x = some .local := by first | exact .inl rfl | exact .inr rfl) : MS J (.Assign [.Name x py] e pos) (sSetX i g) := by
  refine PS.up (ps_set J.nd hi hx he hs hf) fun D σ H q => ?_
  obtain ⟨W, ρ, st, r, q⟩ := q
  refine ⟨W, ρ, st, r, ?_⟩
  unfold sSetX at q
  cases e : g ρ st with
  | exc c v st2 => rw [e] at q; first | exact q | exact XO.per s1.toPer q | exact XO.per (s1.trans s2).toPer q | exact XO.per ((s1.trans s2).trans s3).toPer q
  | bad => rw [e] at q; exact q
  | ok y st1 =>
    rw [e] at q
    obtain ⟨d, ρ'⟩ := y
    exact fun W1 H1 v r1 p1 hd => q W1 H1 _ (r1.set hd) p1
theorem ms_retX {g : XF} (h : MX J e g) : MS J (.Return (some e) pos) (sRetX g) := by
  refine PS.up (ps_ret h) fun D σ H q => ?_
  obtain ⟨W, ρ, st, r, q⟩ := q
  refine ⟨W, ρ, st, r, ?_⟩
  unfold sRetX at q
  cases e : g ρ st with
  | exc c v st2 => rw [e] at q; first | exact q | exact XO.per s1.toPer q | exact XO.per (s1.trans s2).toPer q | exact XO.per ((s1.trans s2).trans s3).toPer q
  | bad => rw [e] at q; exact q
  | ok y st1 =>
    rw [e] at q
    obtain ⟨d, ρ'⟩ := y
    exact fun W1 H1 v r1 p1 hd => q W1 H1 v r1.since r1.wok hd
/-- x.append(y.pop(..)): the argument changes a list of another slot -/
def xMutX (g : MutF) (i : Nat) (x : XF) : XF := fun ρ st => match ρ[i]? with
  | some (some (.o1 _)) => (x ρ st).bind fun r st1 => (match r.2[i]? with
    | some (some (.o1 xs)) => (match g xs [r.1] with | some (ys, d) => .ok (d, r.2.set i (some (.o1 ys))) st1 | none => .bad)
    | _ => .bad)
  | _ => .bad
theorem mx_mutX (i : Nat) {x : Str} {p : Pos} {name : Str} {id : String} {apos cpos : Pos} {g : MutF} {gx : XF} (hm : MtR J.X id (rMu J.f.T.K g)) (slot : Slot "list" name id) (hty : typeOf (.builtin id) = pure (.type "method_descriptor")) (ha : MX J e gx)
    (hN : J.X.N[i]? = some x := by rfl) (hv : Vis J.X.env.scope x := by first | exact Or.inl rfl | exact Or.inr (Or.inl rfl) | exact Or.inr (Or.inr rfl)) (hd : (x == ("__debug__" : Str)) = false := by decide) (hcd : (x == ("__classdict__" : Str)) = false := by decide)
    (hbase : attributeBase (.Name x p) name J.X.env (eval (.Name x p) J.X.env) = eval (.Name x p) J.X.env := by rfl)
    (hfew : ((backTo cpos (starEach [e] J.X.env)).all (fun x => !x.1) && (backToKw cpos (keywordEach [] J.X.env)).all (fun x => x.1.isSome)
      && decide ([e].length + ([] : List Keyword).length + (if ([] : List Keyword).isEmpty then 0 else 1) < 30)) = true := by rfl)
    (hline : (apos.endLine == cpos.line) = true := by rfl) (hs : starEach [e] J.X.env = (false, eval e J.X.env) :: starEach [] J.X.env := by rfl) (hplain : (backTo cpos (starEach [] J.X.env)).any (·.1) = false := by rfl) :
    MX J (.Call (.Attribute (.Name x p) name apos) [e] [] cpos) (xMutX g i gx) := by
  refine PE.up (pe_bm PySem.F.plainAttrs_list slot hty hm (pe_var hN hv hd hcd) (pa_cons ha pa_nil hs) hbase hfew hline hs hplain) fun σ H Q h => ?_
  obtain ⟨W, ρ, st, r, h⟩ := h
  obtain ⟨F, O, hX, hsl⟩ := r.own
  unfold xMutX at h
  rcases hi : ρ[i]? with _ | _ | s
  · rw [hi] at h; exact h.elim
  · rw [hi] at h; exact h.elim
  · obtain ⟨v, e1, e2⟩ := hsl i s hi
    cases s with
    | o2 xss => rw [hi] at h; exact h.elim
    | exn c d => rw [hi] at h; exact h.elim
    | sh d => rw [hi] at h; exact h.elim
    | o1 xs0 =>
      obtain ⟨a, vs, e3, e4, e5, e6⟩ := _root_.id e2
      subst e3
      simp only [hi] at h
      refine ⟨_, e1, .inl ⟨rfl, vs, .of e5⟩, W, ρ, st, r, ?_⟩
      cases e : gx ρ st with
      | exc c v st2 => rw [e] at h; first | exact h | exact XO.per s1.toPer h | exact XO.per (s1.trans s2).toPer h | exact XO.per ((s1.trans s2).trans s3).toPer h
      | bad => rw [e] at h; exact h
      | ok y st1 =>
        rw [e] at h
        obtain ⟨d1, ρ1⟩ := y
        simp only [Out.bind_ok] at h
        intro W1 H1 v1 r1 p1 h1
        show rMu J.f.T.K g _ [v1] H1 Q
        rcases hi2 : ρ1[i]? with _ | _ | s2
        · rw [hi2] at h; exact h.elim
        · rw [hi2] at h; exact h.elim
        · cases s2 with
          | o2 xss => rw [hi2] at h; exact h.elim
          | exn c d => rw [hi2] at h; exact h.elim
          | sh d => rw [hi2] at h; exact h.elim
          | o1 xs =>
            simp only [hi2] at h
            obtain ⟨F1, O1, hX1, hs1⟩ := r1.own
            obtain ⟨v2, f1, f2⟩ := hs1 i _ hi2
            rw [e1] at f1
            cases f1
            obtain ⟨a', vs', f3, f4, f5, f6⟩ := f2
            cases f3
            cases e7 : g xs [d1] with
            | none => rw [e7] at h; exact h.elim
            | some yd =>
              obtain ⟨ys, d⟩ := yd
              rw [e7] at h
              simp only at h
              refine ⟨W1, a, vs', xs, [d1], ys, d, rfl, f5, f6, Dats.cons h1 rfl, e7, fun us' v hu hv => ?_⟩
              obtain ⟨r2, p2⟩ := r1.wrS hi2 e1 hu
              exact h W1 _ v r2 (p1.trans p2) (Dat.per p2 _ _ hv)
/-- x[k] = e -/
theorem ms_setIx (i : Nat) {x : Str} {p tp : Pos} (hv0 : ME J e fa) (hk : ME J a fb) (hN : J.X.N[i]? = some x := by rfl) (hv : Vis J.X.env.scope x := by first | exact Or.inl rfl | exact Or.inr (Or.inl rfl) | exact Or.inr (Or.inr rfl)) (hd : (x == ("__debug__" : Str)) = false := by decide) (hcd : (x == ("__classdict__" : Str)) = false := by decide)
    (hs : swapsWithSole [.Subscript (.Name x p) a tp] e pos.line J.X.env = pure false := by rfl) (hw : swappedStores [.Subscript (.Name x p) a tp] e J.X.env = pure none := by rfl)
    (h1 : (assignEach [.Subscript (.Name x p) a tp] J.X.env).map (·.2) = [assign (.Subscript (.Name x p) a tp) J.X.env] := by rfl)
    (ha : ∀ v, assign (.Subscript (.Name x p) a tp) J.X.env v = (do
      let ov ← holding [v] (eval (.Name x p) J.X.env)
      let iv ← holding [v, ov] (eval a J.X.env)
      standAt tp
      holding [v, ov, iv] (setItem ov iv v)
      release [v, ov, iv] []) := by intro _; rfl) : MS J (.Assign [.Subscript (.Name x p) a tp] e pos) (sSetIx i fb fa) := by
  refine PS.up (ps_asg hv0 (pg_sub (pe_var hN hv hd hcd) hk set_list ha) hs hw h1) fun D σ H q => ?_
  obtain ⟨W, ρ, st, r, q⟩ := q
  refine ⟨W, ρ, st, r, ?_⟩
  unfold sSetIx eTake at q
  cases e : fa ρ st with
  | exc c v st2 => rw [e] at q; first | exact q | exact XO.per s1.toPer q | exact XO.per (s1.trans s2).toPer q | exact XO.per ((s1.trans s2).trans s3).toPer q
  | bad => rw [e] at q; exact q
  | ok y st1 =>
    rw [e] at q
    simp only [Out.bind_ok] at q
    cases e2 : dOf y with
    | none => rw [e2] at q; exact q.elim
    | some d =>
      rw [e2] at q
      simp only [Out.of_some, Out.bindS_ok] at q
      intro W1 H1 v1 r1 s1 hd1
      have dd := hd1.dat e2
      obtain ⟨F, O, hX, hsl⟩ := r1.own
      rcases hi : ρ[i]? with _ | _ | s
      · rw [hi] at q; exact q.elim
      · rw [hi] at q; exact q.elim
      · obtain ⟨v, e1, e2⟩ := hsl i s hi
        cases s with
        | o2 xss => rw [hi] at q; exact q.elim
        | exn c d => rw [hi] at q; exact q.elim
        | o1 xs =>
          obtain ⟨p0, vs, e3, e4, e5, e6⟩ := e2
          subst e3
          simp only [hi] at q
          refine ⟨_, e1, W1, ρ, st1, r1, ?_⟩
          cases e : fb ρ st1 with
          | exc c v st2 => rw [e] at q; first | exact q | exact XO.per s1.toPer q | exact XO.per (s1.trans s2).toPer q | exact XO.per ((s1.trans s2).trans s3).toPer q
          | bad => rw [e] at q; exact q
          | ok z st2 =>
            rw [e] at q
            simp only [Out.bindS_ok] at q
            intro W2 H2 v2 r2 s2 h2
            split at q
            · rename_i k hk
              split at q
              · rename_i j hj
                have vk : v2 = .int k := Vw.of r2 h2 hk
                obtain ⟨o1, o2, o3, o4⟩ := O.ok i p0 (by rw [e4]; exact List.mem_singleton.mpr rfl)
                obtain ⟨k1, k2, k3⟩ := s2.keep p0 o2 o3 o4
                obtain ⟨r3, p3⟩ := r2.wrS hi e1 ((Dats.per s2.toPer _ _ e6).set (Dat.per s2.toPer _ _ dd) j)
                refine ⟨p0, vs, k, j, rfl, vk, by rw [k1]; exact e5, ?_, q W2 _ _ r3 (s1.toPer.trans (s2.toPer.trans p3))⟩
                rw [← e6.len]
                exact hj
              · exact q.elim
            · exact q.elim
        | sh d0 =>
          cases d0 with
          | ref n =>
            obtain ⟨_, p0, e3, e4⟩ := e2
            subst e3
            simp only [hi] at q
            refine ⟨_, e1, W1, ρ, st1, r1, ?_⟩
            cases e : fb ρ st1 with
            | exc c v st2 => rw [e] at q; first | exact q | exact XO.per s1.toPer q | exact XO.per (s1.trans s2).toPer q | exact XO.per ((s1.trans s2).trans s3).toPer q
            | bad => rw [e] at q; exact q
            | ok z st2 =>
              rw [e] at q
              simp only [Out.bindS_ok] at q
              intro W2 H2 v2 r2 s2 h2
              split at q
              · rename_i k xs hk hx
                split at q
                · rename_i j hj
                  have vk : v2 = .int k := Vw.of r2 h2 hk
                  have hn := s2.toPer.get e4
                  obtain ⟨vs, g3, g4⟩ := r2.wok.obj n p0 xs hn hx
                  obtain ⟨r3, p3⟩ := r2.wrR hn (g4.set (Dat.per s2.toPer _ _ dd) j)
                  refine ⟨p0, vs, k, j, rfl, vk, g3, ?_, q W2 _ _ r3 (s1.toPer.trans (s2.toPer.trans p3))⟩
                  rw [← g4.len]
                  exact hj
                · exact q.elim
              · exact q.elim
          | non => rw [hi] at q; exact q.elim
          | bl _ => rw [hi] at q; exact q.elim
          | int _ => rw [hi] at q; exact q.elim
          | str _ => rw [hi] at q; exact q.elim
          | tup _ => rw [hi] at q; exact q.elim
          | lst _ => rw [hi] at q; exact q.elim
          | scr _ => rw [hi] at q; exact q.elim
          | dic _ _ => rw [hi] at q; exact q.elim
/-- x op= e, ints -/
theorem ms_aug (i : Nat) {x : Str} {py : Pos} {op : Operator} {g : D → D → Option D} (ho : OpR J.X (inplaceOp op) (rD2 J.f.T.K g)) (he : ME J e fa) (hi : J.X.N[i]? = some x := by rfl) (hx : Loc J.X.env.scope x := by first | exact Or.inl rfl | exact Or.inr rfl)
    (hf : J.X.fn x = true ∨ J.X.env.scope.names.lookup x = some .local := by first | exact .inl rfl | exact .inr rfl) (hr : ∀ dx y, g dx y ≠ none → ∀ st, root st dx = some dx) : MS J (.AugAssign (.Name x py) op e pos) (sAug i g fa) := by
  refine PS.up (ps_aug J.nd hi hx he (ti := fun x y H Q => rD2 J.f.T.K g x y H Q) (fun pins s σ H x y v u Q I rx ry q => ho pins s σ H x y v u Q I rx ry q) hf) fun D σ H q => ?_
  obtain ⟨W, ρ, st, r, q⟩ := q
  obtain ⟨F, O, hX, hsl⟩ := r.own
  unfold sAug at q
  rcases hi2 : ρ[i]? with _ | _ | s
  · rw [hi2] at q; exact q.elim
  · rw [hi2] at q; exact q.elim
  · obtain ⟨v, e1, e2⟩ := hsl i s hi2
    cases s with
    | o2 xss => rw [hi2] at q; exact q.elim
    | exn c d => rw [hi2] at q; exact q.elim
    | o1 xs => rw [hi2] at q; exact q.elim
    | sh d0 =>
      simp only [hi2] at q
      refine ⟨v, e1, W, ρ, st, r, ?_⟩
      cases e : fa ρ st with
      | exc c v st2 => rw [e] at q; first | exact q | exact XO.per s1.toPer q | exact XO.per (s1.trans s2).toPer q | exact XO.per ((s1.trans s2).trans s3).toPer q
      | bad => rw [e] at q; exact q
      | ok z st1 =>
        rw [e] at q
        simp only [Out.bindS_ok] at q
        intro W1 H1 v1 r1 s1 h1
        split at q
        · rename_i y hy
          split at q
          · rename_i z' hz
            have hd0 := Dat.per s1.toPer _ _ e2.2
            refine ⟨W1, st1, d0, y, z', r1.wok, Vw.root r1.wok hd0 (hr d0 y (by rw [hz]; simp) st1), Vw.of r1 h1 hy, hz, fun W2 H2 v2 s2 w2 hd => q W2 H2 _ ((r1.step s2 w2).set hd) (s1.toPer.trans s2.toPer)⟩
          · exact q.elim
        · exact q.elim
end
/-! ### a def -/
section
variable {T : Tab} {qual x : Str} {st : Stmt} {f : Addr} {fd : FuncData} {N ps : List Str} {k : Nat} {M : SF}
/-- where a def's body stands -/
def jOf (T : Tab) (qual : Str) (st : Stmt) (f : Addr) (cdv : Value) (N : List Str) (hN : N.Nodup) (k : Nat) (A : Around) (outer : List PySem.Env) (s : Shared) (H : Hp) (E : XK) (W : Wd) (n0 : Store) (hr : Room k (A.deeper (envOfC qual (defScope st) s.heap.objs.size f cdv))) (hgd : A.guards = some []) : Jx where
  f := ⟨T, W, H, none⟩
  A := A.deeper (envOfC qual (defScope st) s.heap.objs.size f cdv)
  N := N
  s_0 := s
  H_0 := H
  env := envOfC qual (defScope st) s.heap.objs.size f cdv
  outer := outer
  stack := envOfC qual (defScope st) s.heap.objs.size f cdv :: outer
  ex := []
  calm := true
  fn := fun _ => true
  pn := []
  xe := (cxOf (L2.CX T.P T.w) T.P T.w T.K T.mg T.base N qual (defScope st) f cdv A outer s H E).xe
  EW := fun _ _ ρ st' c v => ∀ W' H' cls dd, Step W H W' H' → WOk T.K W' H' st' → ExcR T W' H' c v cls dd → E cls dd H'
  lev := k
  room := fun _ => hr
  gd := hgd
  nd := hN
  po := passes_of (X := cxOf (L2.CX T.P T.w) T.P T.w T.K T.mg T.base N qual (defScope st) f cdv A outer s H E) rfl
  tk := Takes.imp (takes_of (X := cxOf (L2.CX T.P T.w) T.P T.w T.K T.mg T.base N qual (defScope st) f cdv A outer s H E) rfl rfl rfl rfl) fun c d σ H' h => by
    obtain ⟨W', ρ, st', c', v, r, ex, h⟩ := h
    exact h W' H' c d r.since r.wok ex
theorem start_rel {W : Wd} {H : Hp} {st0 : Store} {ds : List D} {vs : List V} (w : WOk T.K W H st0) (hd : Dats T.K W H ds vs) (hl : ds.length ≤ N.length) :
    RelS ⟨T, W, H, none⟩ [] W H (L2.start N vs) (ds.map (fun d => some (.sh d)) ++ List.replicate (N.length - ds.length) none) st0 := by
  refine ⟨w.zok, w, Step.refl .., ?_, fun _ => [], ⟨fun i a ha => (by cases ha), fun _ => List.nodup_nil, fun i j a ha => (by cases ha)⟩, rfl, fun i s e => ?_⟩
  · unfold L2.start
    simp [hd.len]
  · by_cases hi : i < ds.length
    · rw [List.getElem?_append_left (by simpa using hi), List.getElem?_map, List.getElem?_eq_getElem hi] at e
      simp only [Option.map_some, Option.some.injEq] at e
      subst e
      obtain ⟨v, h1, h2⟩ := hd.get (List.getElem?_eq_getElem hi)
      refine ⟨v, ?_, rfl, h2⟩
      unfold L2.start
      rw [List.getElem?_append_left (by rw [List.length_map, ← hd.len]; exact hi), List.getElem?_map, h1]
      rfl
    · rw [List.getElem?_append_right (by simpa using hi)] at e
      rw [List.getElem?_replicate] at e
      split at e <;> cases e
theorem fn_ok (F : Fun T.K x qual st f fd) (S : FnScope N ps (defScope st)) (hps : ps.length ≤ N.length)
    (hb : ∀ cdv A outer s H E W n0 hr hgd, MSs (jOf T qual st f cdv N S.nd k A outer s H E W n0 hr hgd) (defBody st) M) : FnG T (k + 1) f fd ps (spD T ps.length (runD N.length M)) := by
  obtain ⟨oc, od, kV, doc, pm, an, cdv, ct, osl, rfl, lk, hcd⟩ := F.ex
  refine ⟨fun us H Q E h => h.1, fun A outer s H args us vs Q E hgd hr e0 hbd rv hsp => ?_⟩
  have hlen : us.length = ps.length := by rw [← rv.length]; exact hsp.1
  have inK : T.K.In s.heap := e0.mod.kin.keeps fun b o e => (e0.bs b o e).1
  have nolim : s.heap.NoLimit := e0.mod.nolimit.keeps fun b o e => (e0.bs b o e).1
  have kinds : ∀ y ∈ ps.zip us, (defScope st).names.lookup y.1 = some .local ∨ ((defScope st).names.lookup y.1 = some .cell ∧ ((cellsFrom (s.heap.objs.size + 1) (defScope st).names []).lookup y.1).isSome = true) := by
    rintro ⟨n, v⟩ hy
    rcases S.par n (List.of_mem_zip hy).1 with h1 | h1
    · exact Or.inl h1
    · exact Or.inr ⟨h1, PySem.W.cellsFrom_some _ _ _ (.inl h1)⟩
  refine codeAny_call_function hr.depth (inK _ _ lk) rfl S.co S.gen rfl (PySem.W.codeRec_of inK hcd) (hbd _ _ _ _ ?_)
  refine wpAny_newFunctionEnv_cells S.kind kinds fun env he s1 xx => ?_
  subst he
  refine ⟨nolim.keeps xx.toInCall.keep, codeAny_func ?_⟩
  have I : Inv (cxOf (L2.CX T.P T.w) T.P T.w T.K T.mg T.base N qual (defScope st) f cdv A outer s H E) [] (L2.start N vs) H s1 := inv_start S hr.hd e0 hsp.1 rv xx
  obtain ⟨hl, W, st0, ds, w, hd, q⟩ := hsp
  have wish : rdS (jOf T qual st f cdv N S.nd k A outer s H E W st0 (hr.deeper _) hgd) M { nx := fun _ H' => Q .non H', rt := Q } (L2.start N vs) H := by
    refine ⟨W, _, st0, start_rel w hd (by rw [hd.len, hl]; exact hps), ?_⟩
    unfold runD at q
    cases e : M (ds.map (fun d => some (.sh d)) ++ List.replicate (N.length - ds.length) none) st0 with
    | next ρ st1 => rw [e] at q; exact fun W1 H1 σ r1 p => q W1 H1 .non r1.since r1.wok rfl
    | ret d st1 => rw [e] at q; exact fun W1 H1 v s1 w1 h1 => q W1 H1 v s1 w1 h1
    | exc c v ρ st1 => rw [e] at q; exact fun _ _ _ => q
    | brk ρ st1 => rw [e] at q; exact q.elim
    | cont ρ st1 => rw [e] at q; exact q.elim
    | bad => rw [e] at q; exact q
  refine wpAny_mono ((hb cdv A outer s H E W st0 (hr.deeper _) hgd).run [] s1 (L2.start N vs) H _ I wish) (fun fl s' hs => ?_) fun e s' hs => hs
  cases fl with
  | ret u =>
    obtain ⟨v, σ', H', J, rv, q⟩ := hs
    exact ⟨v, H', J.os, J.bare, J.base, J.hok, rv, q⟩
  | next =>
    obtain ⟨σ', H', J, q⟩ := hs
    exact ⟨V.non, H', J.os, J.bare, J.base, J.hok, rfl, q⟩
  | brk => exact hs.elim fun _ h => h.elim fun _ h => h.2.elim
  | cont => exact hs.elim fun _ h => h.elim fun _ h => h.2.elim
end
end DL

/-! DLO: operations on data. -/
namespace DL
open PySem L2 PySem.Spec PyProof.Rows
section
variable {J : Jx} {X : Cx} {K : PySem.W.Frag}
theorem lenOk_eq {n : Nat} {d e : D} (h : lenOk n d = some e) : n ≤ szL ∧ d = e := by
  unfold lenOk at h
  split at h
  · cases h; exact ⟨by assumption, rfl⟩
  · cases h
/-- two ints -/
theorem od_ints {f : Value → Value → Sem Value} {g : D → D → Option D} {C : Int → Int → Prop} {r : Int → Int → V} (ho : OpR J.X f (rI C r)) (hg : ∀ x y d, g x y = some d → ∃ i j, x = .int i ∧ y = .int j ∧ C i j ∧ ∀ W H, Dat J.f.T.K W H d (r i j)) : OpR J.X f (rD2 J.f.T.K g) := by
  intro pins s σ H x y v u Q I rx ry h
  obtain ⟨W, st, dx, dy, d, w, h1, h2, e, q⟩ := h
  obtain ⟨i, j, rfl, rfl, c, hd⟩ := hg dx dy d e
  exact ho pins s σ H x y v u Q I rx ry ⟨i, j, h1, h2, c, q.imm w (hd W H)⟩
theorem od_ints0 {f : Value → Value → Sem Value} {g : D → D → Option D} {r : Int → Int → V} (ho : OpR J.X f (rI0 r)) (hg : ∀ x y d, g x y = some d → ∃ i j, x = .int i ∧ y = .int j ∧ ∀ W H, Dat J.f.T.K W H d (r i j)) : OpR J.X f (rD2 J.f.T.K g) := by
  intro pins s σ H x y v u Q I rx ry h
  obtain ⟨W, st, dx, dy, d, w, h1, h2, e, q⟩ := h
  obtain ⟨i, j, rfl, rfl, hd⟩ := hg dx dy d e
  exact ho pins s σ H x y v u Q I rx ry ⟨i, j, h1, h2, q.imm w (hd W H)⟩
theorem od_add : OpR J.X (binaryOp .Add) (rD2 J.f.T.K addD) := by
  intro pins s σ H x y v u Q I rx ry h
  obtain ⟨W, st, dx, dy, d, w, h1, h2, e, q⟩ := h
  unfold addD at e
  split at e
  · cases e
    exact op_add pins s σ H x y v u Q I rx ry ⟨_, _, h1, h2, q.imm w rfl⟩
  · rename_i xs ys
    obtain ⟨hl, rfl⟩ := lenOk_eq e
    obtain ⟨a, vs, e1, e2, e3⟩ := h1
    obtain ⟨b, us, f1, f2, f3⟩ := h2
    exact op_cat pins s σ H x y v u Q I rx ry ⟨a, b, vs, us, e1, f1, e2, f2, by rw [← e3.len, ← f3.len]; exact hl, fun p hp => q.lst w (e3.append f3) hp⟩
  · rename_i xs ys
    obtain ⟨hl, rfl⟩ := lenOk_eq e
    obtain ⟨a, vs, e1, e2, e3⟩ := id h1
    obtain ⟨b, us, f1, f2, f3⟩ := id h2
    refine op_catA pins s σ H x y v u Q I rx ry ⟨a, b, vs, us, e1, f1, e2.sq, f2.sq, by rw [← e3.len, ← f3.len]; exact hl, fun z => ?_, fun _ z => ?_, fun _ _ p hp => q.tup w (e3.append f3) hp⟩
    · have : xs = [] := List.eq_nil_of_length_eq_zero (by rw [e3.len, z]; rfl)
      subst this
      rw [← f1]
      exact q.imm w h2
    · have : ys = [] := List.eq_nil_of_length_eq_zero (by rw [f3.len, z]; rfl)
      subst this
      rw [← e1]
      exact q.imm w (by rw [List.append_nil]; exact h1)
  · obtain ⟨hl, rfl⟩ := lenOk_eq e
    exact op_add_str pins s σ H x y v u Q I rx ry ⟨_, _, h1, h2, hl, q.imm w rfl⟩
  · cases e
theorem od_sub : OpR J.X (binaryOp .Sub) (rD2 J.f.T.K subD) := od_ints0 op_sub fun x y d e => by
  unfold subD at e
  split at e
  · cases e; exact ⟨_, _, rfl, rfl, fun _ _ => rfl⟩
  · cases e
theorem od_mod : OpR J.X (binaryOp .Mod) (rD2 J.f.T.K modD) := od_ints op_mod fun x y d e => by
  unfold modD at e
  split at e
  · split at e
    · cases e; exact ⟨_, _, rfl, rfl, by assumption, fun _ _ => rfl⟩
    · cases e
  · cases e
theorem od_fdiv : OpR J.X (binaryOp .FloorDiv) (rD2 J.f.T.K fdivD) := od_ints op_fdivW fun x y d e => by
  unfold fdivD at e
  split at e
  · split at e
    · cases e; exact ⟨_, _, rfl, rfl, by assumption, fun _ _ => rfl⟩
    · cases e
  · cases e
theorem od_pow : OpR J.X (binaryOp .Pow) (rD2 J.f.T.K powD) := by
  intro pins s σ H x y v u Q I rx ry h
  obtain ⟨W, st, dx, dy, d, w, h1, h2, e, q⟩ := h
  unfold powD at e
  split at e
  · rename_i i j
    split at e
    · rename_i hc
      cases e
      have h1 : x = .int i := h1
      have h2 : y = .int j := h2
      subst h1 h2
      obtain ⟨t, rfl⟩ := rx
      obtain ⟨t', rfl⟩ := ry
      refine PyProof.Rows.pow_int hc.1 ?_ ⟨.int _, H, I.tok _, ⟨_, rfl⟩, q.imm w rfl⟩
      have hb1 : Builtin.Int.intBits i ≤ i.natAbs.log2 + 1 := by
        unfold Builtin.Int.intBits
        split <;> omega
      have hb2 : i.natAbs.log2 ≤ 10000 := by
        by_cases hz : i.natAbs = 0
        · rw [hz]; decide
        · exact Nat.le_of_lt ((Nat.log2_lt hz).mpr hc.2.2)
      have hb : Builtin.Int.intBits i ≤ 10001 := by omega
      have h3 : ((Builtin.Int.intBits i : Nat) : Int) * j ≤ 10001 * 1000 := by
        have a1 : ((Builtin.Int.intBits i : Nat) : Int) * j ≤ 10001 * j := Int.mul_le_mul_of_nonneg_right (by omega) hc.1
        omega
      omega
    · cases e
  · cases e
theorem od_lt : OpR J.X (compareOp .Lt) (rD2 J.f.T.K ltD) := od_ints0 op_lt fun x y d e => by
  unfold ltD at e
  split at e
  · cases e; exact ⟨_, _, rfl, rfl, fun _ _ => rfl⟩
  · cases e
theorem od_le : OpR J.X (compareOp .LtE) (rD2 J.f.T.K leD) := od_ints0 op_le fun x y d e => by
  unfold leD at e
  split at e
  · cases e; exact ⟨_, _, rfl, rfl, fun _ _ => rfl⟩
  · cases e
theorem od_gt : OpR J.X (compareOp .Gt) (rD2 J.f.T.K gtD) := od_ints0 op_gt fun x y d e => by
  unfold gtD at e
  split at e
  · cases e; exact ⟨_, _, rfl, rfl, fun _ _ => rfl⟩
  · cases e
theorem od_ge : OpR J.X (compareOp .GtE) (rD2 J.f.T.K geD) := od_ints0 op_ge fun x y d e => by
  unfold geD at e
  split at e
  · cases e; exact ⟨_, _, rfl, rfl, fun _ _ => rfl⟩
  · cases e
theorem ud_neg : UnR J.X (unaryOp .USub) (rD1 J.f.T.K negD) := by
  intro pins s σ H x v Q I rx h
  obtain ⟨W, st, dx, d, w, h1, e, q⟩ := h
  unfold negD at e
  split at e
  · cases e
    exact un_neg pins s σ H x v Q I rx ⟨_, h1, q.imm w rfl⟩
  · cases e
/-! ### == -/
mutual
def toP : D → PyData
  | .non => .none
  | .bl b => .bool b
  | .int i => .int i
  | .str x => .str x
  | .lst xs => .list (toPs xs)
  | .tup xs => .tuple (toPs xs)
  | .ref _ => .none
  | .scr _ => .none
  | .dic _ _ => .none
def toPs : List D → List PyData
  | [] => []
  | x :: xs => toP x :: toPs xs
end
mutual
theorem toP_lay : ∀ d : D, okD d = true → (toP d).canLay0 = true
  | .non, _ => by simp only [toP, PyData.canLay0]
  | .bl _, _ => by simp only [toP, PyData.canLay0]
  | .int _, _ => by simp only [toP, PyData.canLay0]
  | .str x, h => by
    simp only [okD] at h
    simp only [toP, PyData.canLay0]
    exact h
  | .lst xs, h => by
    simp only [okD] at h
    simp only [toP, PyData.canLay0]
    exact toPs_lay xs h
  | .tup xs, h => by
    simp only [okD] at h
    simp only [toP, PyData.canLay0]
    exact toPs_lay xs h
  | .ref _, h => by simp [okD] at h
  | .scr _, h => by simp [okD] at h
  | .dic _ _, h => by simp [okD] at h
theorem toPs_lay : ∀ ds : List D, okDs ds = true → PyData.canLayAll0 (toPs ds) = true
  | [], _ => by simp only [toPs, PyData.canLayAll0]
  | d :: ds, h => by
    simp only [okDs, Bool.and_eq_true] at h
    simp only [toPs, PyData.canLayAll0, toP_lay d h.1, toPs_lay ds h.2, Bool.and_self]
end
mutual
theorem toP_dep : ∀ d : D, (toP d).depth = depD d
  | .non => by simp only [toP, PyData.depth, depD]
  | .bl _ => by simp only [toP, PyData.depth, depD]
  | .int _ => by simp only [toP, PyData.depth, depD]
  | .str x => by simp only [toP, PyData.depth, depD]
  | .lst xs => by simp only [toP, PyData.depth, depD, toPs_dep xs]
  | .tup xs => by simp only [toP, PyData.depth, depD, toPs_dep xs]
  | .ref _ => by simp only [toP, PyData.depth, depD]
  | .scr _ => by simp only [toP, PyData.depth, depD]
  | .dic _ _ => by simp only [toP, PyData.depth, depD]
theorem toPs_dep : ∀ ds : List D, PyData.depthAll (toPs ds) = depDs ds
  | [] => by simp only [toPs, PyData.depthAll, depDs]
  | d :: ds => by simp only [toPs, PyData.depthAll, depDs, toP_dep d, toPs_dep ds]
end
mutual
theorem toP_eqv : ∀ d e : D, okD d = true → okD e = true → PyData.eqv (toP d) (toP e) = eqvD d e
  | .lst xs, e, h, h' => by
    cases e with
    | lst ys =>
      simp only [okD] at h h'
      simp only [toP, PyData.eqv, eqvD]
      exact toPs_eqv xs ys h h'
    | _ => first | (exfalso; simp [okD] at h'; done) | simp only [toP, PyData.eqv, eqvD]
  | .tup xs, e, h, h' => by
    cases e with
    | tup ys =>
      simp only [okD] at h h'
      simp only [toP, PyData.eqv, eqvD]
      exact toPs_eqv xs ys h h'
    | _ => first | (exfalso; simp [okD] at h'; done) | simp only [toP, PyData.eqv, eqvD]
  | .non, e, h, h' => by cases e <;> first | (exfalso; simp [okD] at h'; done) | simp only [toP, PyData.eqv, eqvD]
  | .bl _, e, h, h' => by cases e <;> first | (exfalso; simp [okD] at h'; done) | simp only [toP, PyData.eqv, eqvD]
  | .int _, e, h, h' => by cases e <;> first | (exfalso; simp [okD] at h'; done) | simp only [toP, PyData.eqv, eqvD]
  | .str _, e, h, h' => by cases e <;> first | (exfalso; simp [okD] at h'; done) | simp only [toP, PyData.eqv, eqvD]
  | .ref _, _, h, _ => by simp [okD] at h
  | .scr _, _, h, _ => by simp [okD] at h
  | .dic _ _, _, h, _ => by simp [okD] at h
theorem toPs_eqv : ∀ ds es : List D, okDs ds = true → okDs es = true → PyData.eqvAll (toPs ds) (toPs es) = eqvDs ds es
  | [], [], _, _ => by simp only [toPs, PyData.eqvAll, eqvDs]
  | [], e :: es, _, _ => by simp only [toPs, PyData.eqvAll, eqvDs]
  | d :: ds, [], _, _ => by simp only [toPs, PyData.eqvAll, eqvDs]
  | d :: ds, e :: es, h, h' => by
    simp only [okDs, Bool.and_eq_true] at h h'
    simp only [toPs, PyData.eqvAll, eqvDs, toP_eqv d e h.1 h'.1, toPs_eqv ds es h.2 h'.2]
end
mutual
theorem dp_of {W : Wd} {H : Hp} : ∀ (d : D) (v : V), okD d = true → Dat K W H d v → Dp K H v (toP d)
  | .non, v, _, h => by rw [show v = _ from h]; simp only [toP]; exact .non
  | .bl b, v, _, h => by rw [show v = _ from h]; simp only [toP]; exact .bl b
  | .int i, v, _, h => by rw [show v = _ from h]; simp only [toP]; exact .int i
  | .str x, v, _, h => by rw [show v = _ from h]; simp only [toP]; exact .str x
  | .lst xs, v, k, h => by
    obtain ⟨a, vs, e1, e2, e3⟩ := h
    simp only [okD] at k
    subst e1
    simp only [toP]
    exact .lst e2.sq (dps_of xs vs k e3)
  | .tup xs, v, k, h => by
    obtain ⟨a, vs, e1, e2, e3⟩ := h
    simp only [okD] at k
    subst e1
    simp only [toP]
    exact .tup e2.sq (dps_of xs vs k e3)
  | .ref _, _, k, _ => by simp [okD] at k
  | .scr _, _, k, _ => by simp [okD] at k
  | .dic _ _, _, k, _ => by simp [okD] at k
theorem dps_of {W : Wd} {H : Hp} : ∀ (ds : List D) (vs : List V), okDs ds = true → Dats K W H ds vs → DpAll K H vs (toPs ds)
  | [], _, _, h => by rw [show _ = _ from h]; simp only [toPs]; exact .nil
  | d :: ds, _, k, h => by
    obtain ⟨v, r, e1, e2, e3⟩ := h
    simp only [okDs, Bool.and_eq_true] at k
    subst e1
    simp only [toPs]
    exact .cons (dp_of d v k.1 e2) (dps_of ds r k.2 e3)
end
theorem vw_dp {W : Wd} {H : Hp} {d : D} {v : V} (k : okD d = true) (h : Vw K W H d v) : Dp K H v (toP d) := by
  cases d with
  | lst xs =>
    obtain ⟨a, vs, e1, e2, e3⟩ := h
    simp only [okD] at k
    subst e1
    simp only [toP]
    exact .lst (.of e2) (dps_of xs vs k e3)
  | ref _ => exact h.elim
  | non => exact dp_of (W := W) _ v k h
  | bl _ => exact dp_of (W := W) _ v k h
  | int _ => exact dp_of (W := W) _ v k h
  | str _ => exact dp_of (W := W) _ v k h
  | tup _ => exact dp_of (W := W) _ v k h
  | scr _ => simp [okD] at k
  | dic _ _ => simp [okD] at k
theorem fine_ok {d : D} (h : fineD d = true) : okD d = true ∧ SeqAt.shaped (toP d) = true := by
  unfold fineD at h
  simp only [Bool.and_eq_true, decide_eq_true_eq] at h
  refine ⟨h.1, ?_⟩
  unfold SeqAt.shaped
  rw [toP_lay d h.1, toP_dep d, Bool.true_and]
  exact decide_eq_true (by omega)
theorem od_eq (hc : J.calm = true) : OpR J.X (compareOp .Eq) (rD2 J.f.T.K eqD) := by
  intro pins s σ H x y v u Q I rx ry h
  obtain ⟨W, st, dx, dy, d, w, h1, h2, e, q⟩ := h
  unfold eqD at e
  split at e
  · rename_i a b
    cases e
    obtain rfl : x = .str a := h1
    obtain rfl : y = .str b := h2
    refine op_eq pins s σ H _ _ v u Q I rx ry ⟨rfl, ?_⟩
    refine q.imm w ?_
    show V.bl _ = V.bl _
    simp
  split at e
  · rename_i hf
    simp only [Bool.and_eq_true] at hf
    obtain ⟨o1, s1⟩ := fine_ok hf.1
    obtain ⟨o2, s2⟩ := fine_ok hf.2
    cases e
    exact op_eqD (J.room hc).units pins s σ H x y v u Q I rx ry ⟨_, _, vw_dp o1 h1, vw_dp o2 h2, s1, s2, by rw [toP_eqv _ _ o1 o2]; exact q.imm w rfl⟩
  · cases e
theorem od_ne (hc : J.calm = true) : OpR J.X (compareOp .NotEq) (rD2 J.f.T.K neD) := by
  intro pins s σ H x y v u Q I rx ry h
  obtain ⟨W, st, dx, dy, d, w, h1, h2, e, q⟩ := h
  unfold neD at e
  split at e
  · rename_i a b
    cases e
    obtain rfl : x = .str a := h1
    obtain rfl : y = .str b := h2
    refine op_ne pins s σ H _ _ v u Q I rx ry ⟨rfl, ?_⟩
    refine q.imm w ?_
    show V.bl _ = V.bl _
    simp
  split at e
  · rename_i hf
    simp only [Bool.and_eq_true] at hf
    obtain ⟨o1, s1⟩ := fine_ok hf.1
    obtain ⟨o2, s2⟩ := fine_ok hf.2
    cases e
    exact op_neD (J.room hc).units pins s σ H x y v u Q I rx ry ⟨_, _, vw_dp o1 h1, vw_dp o2 h2, s1, s2, by rw [toP_eqv _ _ o1 o2]; exact q.imm w rfl⟩
  · cases e
theorem od_is : OpR J.X (compareOp .Is) (rD2 J.f.T.K isNonD) := by
  intro pins s σ H x y v u Q I rx ry h
  obtain ⟨W, st, dx, dy, d, w, h1, h2, e, q⟩ := h
  unfold isNonD at e
  split at e
  · cases e
    refine op_isN pins s σ H x y v u Q I rx ry ⟨h2, ?_⟩
    refine q.imm w ?_
    show V.bl _ = V.bl _
    congr 1
    cases dx with
    | non => rw [show x = _ from h1]; rfl
    | bl _ => rw [show x = _ from h1]; rfl
    | int _ => rw [show x = _ from h1]; rfl
    | str _ => rw [show x = _ from h1]; rfl
    | tup _ => obtain ⟨a, vs, e1, _⟩ := h1; rw [e1]; rfl
    | lst _ => obtain ⟨a, vs, e1, _⟩ := h1; rw [e1]; rfl
    | scr _ => obtain ⟨a, e1, _⟩ := h1; rw [e1]; rfl
    | dic _ _ => obtain ⟨a, _, e1, _⟩ := h1; rw [e1]; rfl
    | ref _ => exact h1.elim
  · cases e
    rename_i a b
    refine op_isBl pins s σ H x y v u Q I rx ry ⟨a, b, h1, h2, q.imm w ?_⟩
    show V.bl _ = V.bl _
    cases a <;> cases b <;> rfl
  · cases e
theorem od_isnot : OpR J.X (compareOp .IsNot) (rD2 J.f.T.K isNotD) := by
  intro pins s σ H x y v u Q I rx ry h
  obtain ⟨W, st, dx, dy, d, w, h1, h2, e, q⟩ := h
  unfold isNotD at e
  split at e
  · cases e
    refine op_notN pins s σ H x y v u Q I rx ry ⟨h2, ?_⟩
    refine q.imm w ?_
    show V.bl _ = V.bl _
    congr 1
    cases dx with
    | non => rw [show x = _ from h1]; rfl
    | bl _ => rw [show x = _ from h1]; rfl
    | int _ => rw [show x = _ from h1]; rfl
    | str _ => rw [show x = _ from h1]; rfl
    | tup _ => obtain ⟨a, vs, e1, _⟩ := h1; rw [e1]; rfl
    | lst _ => obtain ⟨a, vs, e1, _⟩ := h1; rw [e1]; rfl
    | scr _ => obtain ⟨a, e1, _⟩ := h1; rw [e1]; rfl
    | dic _ _ => obtain ⟨a, _, e1, _⟩ := h1; rw [e1]; rfl
    | ref _ => exact h1.elim
  · cases e
    rename_i a b
    refine op_notBl pins s σ H x y v u Q I rx ry ⟨a, b, h1, h2, q.imm w ?_⟩
    show V.bl _ = V.bl _
    cases a <;> cases b <;> rfl
  · cases e
end
end DL

/-! DLP: more operations, built-in functions. -/
namespace DL
open PySem L2 PySem.Spec PyProof.Rows
theorem tup_mul1 (l : Addr) (items : Array Value) (n : Nat) (dd : Option Addr) (sl : Array (Option Value)) (u : Tok) :
    Meets (Builtin.«tuple.__mul__» ⟨[.ref l, .int 1 u], []⟩) (fun _ R s => s.heap.get? l = some { cls := .type "tuple", dict := dd, data := .seq items n, slots := sl } ∧ R (.ok (.ret (Value.ref l))) s) :=
  .of_wp fun prog w A R s h => by
    obtain ⟨hp, g, d, tk, os⟩ := s
    obtain ⟨hl, h⟩ := h
    have f1 := AutoSeq1.idx_int
    have c1 : (items.isEmpty || (1 : Int) == 1) = true := by simp
    wp_walk using wpAny_loadPart' hl
    repeat (first
      | (refine wpAny_ite_true (by first | exact c1 | exact decide_eq_true c1) ?_; wp_walk using wpAny_loadPart' hl)
      | (refine wpAny_ite_true (by simp) ?_; wp_walk using wpAny_loadPart' hl)
      | (refine wpAny_ite_false (by simp) ?_; wp_walk using wpAny_loadPart' hl))
    exact ⟨_, rfl, h⟩
theorem tup_mul0 (l : Addr) (items : Array Value) (n : Nat) (dd : Option Addr) (sl : Array (Option Value)) (u : Tok) (hi : items.isEmpty = false) :
    Meets (Builtin.«tuple.__mul__» ⟨[.ref l, .int 0 u], []⟩) (fun _ R s => s.heap.get? l = some { cls := .type "tuple", dict := dd, data := .seq items n, slots := sl } ∧ R (.ok (.ret (Value.ref s.heap.objs.size))) { s with heap := s.heap.push { cls := Value.type "tuple", data := Data.seq #[] } }) :=
  .of_wp fun prog w A R s h => by
    obtain ⟨hp, g, d, tk, os⟩ := s
    obtain ⟨hl, h⟩ := h
    have f1 := AutoSeq1.idx_int
    have c1 : (items.isEmpty || (0 : Int) == 1) = false := by rw [hi]; rfl
    have c2 : (decide ((0 : Int) ≤ 0) || items.isEmpty) = true := by simp
    wp_walk using wpAny_loadPart' hl
    repeat (first
      | (refine wpAny_ite_false (decide_eq_false (by rw [c1]; exact Bool.false_ne_true)) ?_; wp_walk using wpAny_loadPart' hl)
      | (refine wpAny_ite_true (decide_eq_true c2) ?_; wp_walk using wpAny_loadPart' hl)
      | (refine wpAny_ite_false (by simp) ?_; wp_walk using wpAny_loadPart' hl))
    exact ⟨_, rfl, h⟩
section
variable {J : Jx}
theorem od_mul : OpR J.X (binaryOp .Mult) (rD2 J.f.T.K mulD) := by
  intro pins s σ H x y v u Q I rx ry h
  obtain ⟨W, st, dx, dy, d, w, h1, h2, e, q⟩ := h
  unfold mulD at e
  split at e
  · split at e
    · cases e
      exact op_mulW pins s σ H x y v u Q I rx ry ⟨_, _, h1, h2, by assumption, q.imm w rfl⟩
    · cases e
  · rename_i xs k
    split at e
    · rename_i hc
      cases e
      obtain ⟨a, vs, e1, e2, e3⟩ := h1
      refine op_rep pins s σ H x y v u Q I rx ry ⟨a, k, vs, e1, h2, e2, by omega, by omega, by rw [← e3.len]; exact hc.1, fun p hp => q.lst w (e3.rep _) hp⟩
    · cases e
  · rename_i xs k
    split at e
    · rename_i hc
      cases e
      obtain ⟨a, vs, e1, e2, e3⟩ := _root_.id h1
      have h2 : y = .int k := h2
      have hne : vs ≠ [] := fun z => hc.2.2.2 (List.eq_nil_of_length_eq_zero (by rw [e3.len, z]; rfl))
      by_cases k2 : 2 ≤ k
      · exact op_repT pins s σ H x y v u Q I rx ry ⟨a, k, vs, e1, h2, e2.sq, hne, k2, by omega, by rw [← e3.len]; exact hc.1, fun p hp => q.tup w (e3.rep _) hp⟩
      · subst e1 h2
        cases rx
        obtain ⟨t, rfl⟩ := ry
        obtain ⟨its, r, ⟨⟨cls, dd, data, sl⟩, ho, hcl, n, hd⟩, hs⟩ := I.tuple e2.sq
        simp only at hcl hd
        subst hcl hd
        have hi : its.toArray.isEmpty = false := by
          cases its with
          | nil => exact absurd (r.nil_iff.mp rfl) hne
          | cons a b => rfl
        by_cases k1 : k = 1
        · subst k1
          refine wpAny_binaryOp_repeat_ref (T := "tuple") (U := "int") (by decide) ⟨_, ho, rfl⟩ (fun s' => typeIs_int s' 1 t) noFill_tuple_mul F.fills_int_mul F.slot_int_rmul repeat_tuple F.slot_int_index.lookup
            (call_meets F.slot_int_rmul (typeIs_int s 1 t) F.entry_int_rmul (F.args_int_rmul_2 _ _) (int_rmul_tuple 1 t a its.toArray n dd sl)
              ⟨ho, rfl, ⟨_, ho, rfl⟩, call_meets F.slot_tuple_mul ⟨_, ho, rfl⟩ F.entry_tuple_mul (F.args_tuple_mul_2 _ _) (tup_mul1 a its.toArray n dd sl t) ⟨ho, ?_⟩⟩)
          refine ⟨.ref a, H, I, rfl, q.imm w ?_⟩
          have : (List.replicate (1 : Int).toNat xs).flatten = xs := by simp
          rw [this]
          exact h1
        · have k0 : k = 0 := by omega
          subst k0
          refine wpAny_binaryOp_repeat_ref (T := "tuple") (U := "int") (by decide) ⟨_, ho, rfl⟩ (fun s' => typeIs_int s' 0 t) noFill_tuple_mul F.fills_int_mul F.slot_int_rmul repeat_tuple F.slot_int_index.lookup
            (call_meets F.slot_int_rmul (typeIs_int s 0 t) F.entry_int_rmul (F.args_int_rmul_2 _ _) (int_rmul_tuple 0 t a its.toArray n dd sl)
              ⟨ho, rfl, ⟨_, ho, rfl⟩, call_meets F.slot_tuple_mul ⟨_, ho, rfl⟩ F.entry_tuple_mul (F.args_tuple_mul_2 _ _) (tup_mul0 a its.toArray n dd sl t hi) ⟨ho, ?_⟩⟩)
          refine ⟨.ref s.heap.objs.size, _, I.laid (t' := s.toks) (o := .tup []) (fun b ob q => Heap.get?_push_of_some _ q) (Nat.le_refl _) ?_, rfl, ?_⟩
          · exact ⟨Nat.zero_le _, [], .nil, IsTup.new _ _⟩
          · exact q.tup (vs := []) w rfl (I.hok.fresh (Nat.le_refl _))
    · cases e
  · cases e
/-! ### in -/
theorem flat_of {W : Wd} {H : Hp} {d : D} {v : V} (h : Vw J.f.T.K W H d v) (k : flatD d = true) : flatV v = true := by
  cases d <;> first | (rw [show v = _ from h]; rfl) | (simp [flatD] at k)
theorem flats_of {W : Wd} {H : Hp} : ∀ {ds : List D} {vs : List V}, Dats J.f.T.K W H ds vs → ds.all flatD = true → vs.all flatV = true
  | [], _, h, _ => by rw [show _ = _ from h]; rfl
  | d :: ds, _, h, k => by
    obtain ⟨v, r, e1, e2, e3⟩ := h
    subst e1
    rw [List.all_cons, Bool.and_eq_true] at k ⊢
    refine ⟨?_, flats_of e3 k.2⟩
    have k1 := k.1
    cases d <;> first | (rw [show v = _ from e2]; rfl) | (simp [flatD] at k1)
theorem eqV_of {W : Wd} {H : Hp} {d e : D} {v u : V} (h : Dat J.f.T.K W H d v) (h' : Vw J.f.T.K W H e u) (k : flatD d = true) (k' : flatD e = true) : eqV v u = eqvD d e := by
  cases d <;> first | (simp [flatD] at k; done) | skip
  all_goals (cases e <;> first | (simp [flatD] at k'; done) | (rw [show v = _ from h, show u = _ from h']; simp only [eqV, eqvD]))
theorem any_of {W : Wd} {H : Hp} {e : D} {u : V} (h' : Vw J.f.T.K W H e u) (k' : flatD e = true) : ∀ {ds : List D} {vs : List V}, Dats J.f.T.K W H ds vs → ds.all flatD = true → inV u vs = ds.any fun z => eqvD z e
  | [], _, h, _ => by rw [show _ = _ from h]; rfl
  | d :: ds, _, h, k => by
    obtain ⟨v, r, e1, e2, e3⟩ := h
    subst e1
    rw [List.all_cons, Bool.and_eq_true] at k
    have ih := any_of h' k' e3 k.2
    unfold inV at ih ⊢
    rw [List.any_cons, List.any_cons, ih, eqV_of e2 h' k.1 k']
theorem toPs_any {e : D} (k' : okD e = true) : ∀ {ds : List D}, okDs ds = true → ((toPs ds).any fun z => PyData.eqv z (toP e)) = ds.any fun z => eqvD z e
  | [], _ => rfl
  | d :: ds, k => by
    simp only [okDs, Bool.and_eq_true] at k
    simp only [toPs, List.any_cons, toP_eqv d e k.1 k', toPs_any k' k.2]
theorem od_in (hc : J.calm = true) : OpR J.X (compareOp .In) (rD2 J.f.T.K inD) := by
  intro pins s σ H x y v u Q I rx ry h
  obtain ⟨W, st, dx, dy, d, w, h1, h2, e, q⟩ := h
  unfold inD at e
  split at e
  · rename_i ys
    split at e
    · rename_i hf
      simp only [Bool.and_eq_true] at hf
      obtain ⟨o1, s1⟩ := fine_ok hf.1
      obtain ⟨o2, s2⟩ := fine_ok hf.2
      cases e
      have := (J.room hc).units
      have hd := vw_dp o2 h2
      simp only [toP] at hd s2
      refine op_inD (by show J.A.units + 65 < cLine; have := (J.room hc).un; omega) pins s σ H x y v u Q I rx ry ⟨_, _, vw_dp o1 h1, hd, s1, s2, ?_⟩
      rw [toPs_any o1 (by simpa [okD] using o2)]
      exact q.imm w rfl
    · cases e
  · rename_i ys
    split at e
    · rename_i hf
      simp only [Bool.and_eq_true] at hf
      cases e
      obtain ⟨a, vs, e1, e2, e3⟩ := h2
      refine op_in_seq pins s σ H x y v u Q I rx ry ⟨a, vs, e1, .inr e2.sq, flat_of h1 hf.1, flats_of e3 hf.2, ?_⟩
      rw [if_neg (by simp), any_of h1 hf.1 e3 hf.2]
      exact q.imm w rfl
    · cases e
  · cases e
theorem od_notin (hc : J.calm = true) : OpR J.X (compareOp .NotIn) (rD2 J.f.T.K notInD) := by
  intro pins s σ H x y v u Q I rx ry h
  obtain ⟨W, st, dx, dy, d, w, h1, h2, e, q⟩ := h
  unfold notInD at e
  split at e
  · rename_i ys
    split at e
    · rename_i hf
      simp only [Bool.and_eq_true] at hf
      obtain ⟨o1, s1⟩ := fine_ok hf.1
      obtain ⟨o2, s2⟩ := fine_ok hf.2
      cases e
      have hd := vw_dp o2 h2
      simp only [toP] at hd s2
      refine op_notInD (by show J.A.units + 65 < cLine; have := (J.room hc).un; omega) pins s σ H x y v u Q I rx ry ⟨_, _, vw_dp o1 h1, hd, s1, s2, ?_⟩
      rw [toPs_any o1 (by simpa [okD] using o2)]
      exact q.imm w rfl
    · cases e
  · rename_i ys
    split at e
    · rename_i hf
      simp only [Bool.and_eq_true] at hf
      cases e
      obtain ⟨a, vs, e1, e2, e3⟩ := h2
      refine op_notIn_seq pins s σ H x y v u Q I rx ry ⟨a, vs, e1, .inr e2.sq, flat_of h1 hf.1, flats_of e3 hf.2, ?_⟩
      rw [if_pos rfl, any_of h1 hf.1 e3 hf.2]
      exact q.imm w rfl
    · cases e
  · cases e
/-! ### built-in functions -/
theorem vws1 {W : Wd} {H : Hp} {d : D} {xs : List V} (h : Vws J.f.T.K W H [d] xs) : ∃ v, xs = [v] ∧ Vw J.f.T.K W H d v := by
  obtain ⟨v, r, e1, e2, e3⟩ := h
  have e3 : r = [] := e3
  subst e3
  exact ⟨v, e1, e2⟩
theorem vws2 {W : Wd} {H : Hp} {d e : D} {xs : List V} (h : Vws J.f.T.K W H [d, e] xs) : ∃ v u, xs = [v, u] ∧ Vw J.f.T.K W H d v ∧ Vw J.f.T.K W H e u := by
  obtain ⟨v, r, e1, e2, e3⟩ := h
  obtain ⟨u, h1, h2⟩ := vws1 e3
  subst h1
  exact ⟨v, u, e1, e2, h2⟩
theorem cb_len : CallR J.X (.builtin "len") (rDs J.f.T.K lenB) := by
  intro pins s σ H xs us Q I r h
  obtain ⟨W, st, ds, d, w, hv, e, q⟩ := h
  unfold lenB at e
  split at e
  · cases e
    obtain ⟨v, rfl, a, vs, e1, e2, e3⟩ := vws1 hv
    refine call_len pins s σ H [v] us Q I r ⟨v, vs.length, rfl, ?_, ?_⟩
    · subst e1; exact .inl ⟨vs, .of e2, rfl⟩
    · rw [← e3.len]; exact q.imm w rfl
  · cases e
    obtain ⟨v, rfl, a, vs, e1, e2, e3⟩ := vws1 hv
    refine call_len pins s σ H [v] us Q I r ⟨v, vs.length, rfl, ?_, ?_⟩
    · subst e1; exact .inr ⟨vs, e2.sq, rfl⟩
    · rw [← e3.len]; exact q.imm w rfl
  · cases e
    rename_i ns
    obtain ⟨v, rfl, a, e1, e2⟩ := vws1 hv
    refine call_len pins s σ H [v] us Q I r ⟨v, ns.length, rfl, ?_, q.imm w rfl⟩
    subst e1; exact .inl ⟨_, e2.sq, by simp⟩
  · rename_i x
    split at e
    · rename_i hz
      cases e
      obtain ⟨v, rfl, h1⟩ := vws1 hv
      refine call_len pins s σ H [v] us Q I r ⟨v, x.length, rfl, ?_, q.imm w rfl⟩
      rw [show v = _ from h1]
      exact ⟨hz, rfl⟩
    · cases e
  · cases e
theorem intsD_eq : ∀ {ds : List D} {ns : List Int}, intsD ds = some ns → ds = ns.map D.int
  | [], _, h => by cases h; rfl
  | .int i :: r, ns, h => by
    simp only [intsD] at h
    cases e : intsD r with
    | none => rw [e] at h; cases h
    | some ms =>
      rw [e] at h
      cases h
      rw [intsD_eq e]
      rfl
  | .non :: r, _, h => by simp [intsD] at h
  | .bl _ :: r, _, h => by simp [intsD] at h
  | .str _ :: r, _, h => by simp [intsD] at h
  | .tup _ :: r, _, h => by simp [intsD] at h
  | .lst _ :: r, _, h => by simp [intsD] at h
  | .ref _ :: r, _, h => by simp [intsD] at h
  | .scr _ :: r, _, h => by simp [intsD] at h
  | .dic _ _ :: r, _, h => by simp [intsD] at h
theorem sum_tupV {prog : Program} {w : World} {A : Around} {E : Value → Shared → Prop} {s : Shared} {l : Addr} {its : List Value} {ns : List Int} {Q : Value → Shared → Prop} (hh : A.handled = none) (hl : IsTup s.heap l its.toArray) (hi : IntsAre its ns)
    (h : ∀ h' tk t', (∀ b o, s.heap.get? b = some o → h'.get? b = some o) → Q (.int ns.sum t') { s with heap := h', toks := tk }) : wpAny (model prog w) A (call (.builtin "sum") [.ref l]) Q E s := by
  obtain ⟨xs, e⟩ := hi.allInts.items
  have hn : numsOf (intItems xs).toList = ns := by rw [← e]; exact hi.numsOf
  rw [nums_intItems] at hn
  rw [e] at hl
  have hlt : l < s.heap.objs.size := hl.lt
  refine call_sum_walkG (wpAny_pyIter_tuple hl ?_)
  refine ⟨_, _, _, _, _, _, numAt xs, rfl, Walks.tuple (A := A.in1) hh _ l (Nat.ne_of_lt hlt) (intItems xs), ⟨⟨_, Heap.get?_push_size _ rfl, rfl, rfl⟩, hl.push _⟩, (fun b hb => ?_), (fun _ _ => intItems_at), fun h' tk t' hk => ?_⟩
  · show b < (s.heap.push _).objs.size
    rw [Heap.size_push]
    rcases List.mem_cons.mp hb with e9 | hb
    · rw [e9]; exact Nat.lt_succ_self _
    · rw [List.mem_singleton.mp hb]; exact Nat.lt_succ_of_lt hlt
  · have hq := h h' tk t' fun b o eb => hk b o (fun hm => by
      rw [List.mem_singleton] at hm
      subst hm
      exact absurd (Heap.lt_size eb) (Nat.lt_irrefl _)) (Heap.get?_push_of_some _ eb)
    have hs : (intItems xs).size = xs.size := by simp [intItems]
    rw [hs, preSum_eq, List.take_of_length_le (by simp), hn]
    exact hq
theorem cb_sum (hc : J.calm = true) : CallR J.X (.builtin "sum") (rDs J.f.T.K sumB) := by
  intro pins s σ H xs us Q I r h
  obtain ⟨W, st, ds, d, w, hv, e, q⟩ := h
  unfold sumB at e
  split at e
  · rename_i ys
    cases e2 : intsD ys with
    | none => rw [e2] at e; cases e
    | some ns =>
      rw [e2] at e
      cases e
      have := intsD_eq e2
      subst this
      obtain ⟨v, rfl, a, vs, g1, g2, g3⟩ := vws1 hv
      refine cr_sum hc pins s σ H [v] us Q I r ⟨a, ns, by rw [g1], ?_, q.imm w rfl⟩
      rw [g3.ints] at g2
      exact .of g2
  · rename_i ys
    cases e2 : intsD ys with
    | none => rw [e2] at e; cases e
    | some ns =>
      rw [e2] at e
      cases e
      have := intsD_eq e2
      subst this
      obtain ⟨v, rfl, a, vs, g1, g2, g3⟩ := vws1 hv
      subst g1
      obtain ⟨its, rv, hl, _⟩ := I.tuple g2.sq
      rw [g3.ints] at rv
      rw [Vals.ref1 r]
      exact sum_tupV (I.ok.hd hc) hl rv.ints fun h' tk t' hk => ⟨.int _, H, I.kept hk, ⟨_, rfl⟩, q.imm w rfl⟩
  · cases e
theorem cb_abs : CallR J.X (.builtin "abs") (rDs J.f.T.K absB) := by
  intro pins s σ H xs us Q I r h
  obtain ⟨W, st, ds, d, w, hv, e, q⟩ := h
  unfold absB at e
  split at e
  · cases e
    obtain ⟨v, rfl, h1⟩ := vws1 hv
    exact call_abs pins s σ H [v] us Q I r ⟨_, by rw [show v = _ from h1], q.imm w rfl⟩
  · cases e
theorem cb_int : CallR J.X (.type "int") (rDs J.f.T.K intB) := by
  intro pins s σ H xs us Q I r h
  obtain ⟨W, st, ds, d, w, hv, e, q⟩ := h
  unfold intB at e
  split at e
  · cases e
    obtain ⟨v, rfl, h1⟩ := vws1 hv
    exact call_int1 pins s σ H [v] us Q I r (.inl ⟨_, by rw [show v = _ from h1], q.imm w rfl⟩)
  · cases e
    obtain ⟨v, rfl, h1⟩ := vws1 hv
    exact call_int1 pins s σ H [v] us Q I r (.inr ⟨_, by rw [show v = _ from h1], q.imm w rfl⟩)
  · cases e
theorem bools_eq : ∀ {ds : List D} {bs : List Bool}, bools ds = some bs → ds = bs.map D.bl
  | [], _, h => by cases h; rfl
  | .bl i :: r, ns, h => by
    simp only [bools] at h
    cases e : bools r with
    | none => rw [e] at h; cases h
    | some ms =>
      rw [e] at h
      cases h
      rw [bools_eq e]
      rfl
  | .non :: r, _, h => by simp [bools] at h
  | .int _ :: r, _, h => by simp [bools] at h
  | .str _ :: r, _, h => by simp [bools] at h
  | .tup _ :: r, _, h => by simp [bools] at h
  | .lst _ :: r, _, h => by simp [bools] at h
  | .ref _ :: r, _, h => by simp [bools] at h
  | .scr _ :: r, _, h => by simp [bools] at h
  | .dic _ _ :: r, _, h => by simp [bools] at h
theorem Dats.bools {K : PySem.W.Frag} {W : Wd} {H : Hp} : ∀ {bs : List Bool} {vs : List V}, Dats K W H (bs.map D.bl) vs → vs = bs.map V.bl
  | [], _, h => h
  | b :: bs, _, h => by
    obtain ⟨v, r, e, f, g⟩ := h
    rw [e, show v = V.bl b from f, Dats.bools g]
    rfl
theorem cb_all (hc : J.calm = true) : CallR J.X (.builtin "all") (rDs J.f.T.K allB) := by
  intro pins s σ H xs us Q I r h
  obtain ⟨W, st, ds, d, w, hv, e, q⟩ := h
  unfold allB at e
  split at e
  · rename_i ys
    cases e2 : bools ys with
    | none => rw [e2] at e; cases e
    | some ns =>
      rw [e2] at e
      cases e
      have := bools_eq e2
      subst this
      obtain ⟨v, rfl, a, vs, g1, g2, g3⟩ := vws1 hv
      refine cr_all hc pins s σ H [v] us Q I r ⟨a, ns, by rw [g1], ?_, q.imm w rfl⟩
      rw [g3.bools] at g2
      exact .of g2
  · cases e
theorem cb_any (hc : J.calm = true) : CallR J.X (.builtin "any") (rDs J.f.T.K anyB) := by
  intro pins s σ H xs us Q I r h
  obtain ⟨W, st, ds, d, w, hv, e, q⟩ := h
  unfold anyB at e
  split at e
  · rename_i ys
    cases e2 : bools ys with
    | none => rw [e2] at e; cases e
    | some ns =>
      rw [e2] at e
      cases e
      have := bools_eq e2
      subst this
      obtain ⟨v, rfl, a, vs, g1, g2, g3⟩ := vws1 hv
      refine cr_any hc pins s σ H [v] us Q I r ⟨a, ns, by rw [g1], ?_, q.imm w rfl⟩
      rw [g3.bools] at g2
      exact .of g2
  · cases e
theorem cb_tuple : CallR J.X (.type "tuple") (rDs J.f.T.K tupleB) := by
  intro pins s σ H xs us Q I r h
  obtain ⟨W, st, ds, d, w, hv, e, q⟩ := h
  unfold tupleB at e
  split at e
  · cases e
    obtain ⟨v, rfl, a, vs, g1, g2, g3⟩ := vws1 hv
    exact call_tuple_of pins s σ H [v] us Q I r ⟨a, vs, by rw [g1], .inl ⟨.of g2, fun p hp => q.tup w g3 hp⟩⟩
  · cases e
    obtain ⟨v, rfl, h1⟩ := vws1 hv
    obtain ⟨a, vs, g1, g2, g3⟩ := _root_.id h1
    refine call_tuple_of pins s σ H [v] us Q I r ⟨a, vs, by rw [g1], .inr ⟨g2.sq, ?_⟩⟩
    rw [← g1]
    exact q.imm w h1
  · cases e
end
end DL

/-! DLQ: max, min, list(..), isinstance, enumerate. -/
namespace DL
open PySem L2 PySem.Spec PyProof.Rows
theorem maxI_eq {ns : List Int} {m : Int} (h1 : m ∈ ns) (h2 : ∀ y, y ∈ ns → y ≤ m) : maxI ns = some m := by
  have key : ∀ (xs : List Int) (x : Int), (∀ y ∈ xs, y ≤ xs.foldl max x) ∧ x ≤ xs.foldl max x ∧ (xs.foldl max x = x ∨ xs.foldl max x ∈ xs) := by
    intro xs
    induction xs with
    | nil => intro x; exact ⟨by simp, Int.le_refl _, .inl rfl⟩
    | cons z zs ih =>
      intro x
      obtain ⟨a, b, c⟩ := ih (max x z)
      simp only [List.foldl_cons]
      refine ⟨fun y hy => ?_, by omega, ?_⟩
      · rcases List.mem_cons.mp hy with e | hy
        · subst e; omega
        · exact a y hy
      · rcases c with c | c
        · by_cases hz : x ≤ z
          · right; rw [c, show max x z = z by omega]; exact List.mem_cons_self ..
          · left; rw [c]; omega
        · right; exact List.mem_cons_of_mem _ c
  cases ns with
  | nil => cases h1
  | cons x xs =>
    obtain ⟨a, b, c⟩ := key xs x
    show some (xs.foldl max x) = some m
    have le : xs.foldl max x ≤ m := by
      rcases c with c | c
      · rw [c]; exact h2 x (List.mem_cons_self ..)
      · exact h2 _ (List.mem_cons_of_mem _ c)
    have ge : m ≤ xs.foldl max x := by
      rcases List.mem_cons.mp h1 with e | h1
      · rw [e]; exact b
      · exact a m h1
    rw [Int.le_antisymm le ge]
theorem minI_eq {ns : List Int} {m : Int} (h1 : m ∈ ns) (h2 : ∀ y, y ∈ ns → m ≤ y) : minI ns = some m := by
  have key : ∀ (xs : List Int) (x : Int), (∀ y ∈ xs, xs.foldl min x ≤ y) ∧ xs.foldl min x ≤ x ∧ (xs.foldl min x = x ∨ xs.foldl min x ∈ xs) := by
    intro xs
    induction xs with
    | nil => intro x; exact ⟨by simp, Int.le_refl _, .inl rfl⟩
    | cons z zs ih =>
      intro x
      obtain ⟨a, b, c⟩ := ih (min x z)
      simp only [List.foldl_cons]
      refine ⟨fun y hy => ?_, by omega, ?_⟩
      · rcases List.mem_cons.mp hy with e | hy
        · subst e; omega
        · exact a y hy
      · rcases c with c | c
        · by_cases hz : z ≤ x
          · right; rw [c, show min x z = z by omega]; exact List.mem_cons_self ..
          · left; rw [c]; omega
        · right; exact List.mem_cons_of_mem _ c
  cases ns with
  | nil => cases h1
  | cons x xs =>
    obtain ⟨a, b, c⟩ := key xs x
    show some (xs.foldl min x) = some m
    have le : m ≤ xs.foldl min x := by
      rcases c with c | c
      · rw [c]; exact h2 x (List.mem_cons_self ..)
      · exact h2 _ (List.mem_cons_of_mem _ c)
    have ge : xs.foldl min x ≤ m := by
      rcases List.mem_cons.mp h1 with e | h1
      · rw [e]; exact b
      · exact a m h1
    rw [Int.le_antisymm ge le]
section
variable {prog : Program} {w : World} {A : Around} {E : Value → Shared → Prop} {s : Shared} {l : Addr} {its : List Value} {ns : List Int} {Q : Value → Shared → Prop}
theorem numAt_in {xs : Array (Int × Tok)} {i : Nat} (h : i < xs.size) : numAt xs i ∈ xs.toList.map (·.1) := by
  unfold numAt
  rw [Array.getElem?_eq_getElem h]
  exact List.mem_map.mpr ⟨xs[i], Array.getElem_mem_toList h, rfl⟩
theorem in_numAt {xs : Array (Int × Tok)} {a : Int} (h : a ∈ xs.toList.map (·.1)) : ∃ j, j < xs.size ∧ a = numAt xs j := by
  obtain ⟨p, hp, rfl⟩ := List.mem_map.mp h
  obtain ⟨j, hj, e⟩ := List.mem_iff_getElem.mp hp
  have hj' : j < xs.size := by simpa using hj
  refine ⟨j, hj', ?_⟩
  unfold numAt
  rw [Array.getElem?_eq_getElem hj']
  simp [← e]
theorem max_tupV (hh : A.handled = none) (hl : IsTup s.heap l its.toArray) (hi : IntsAre its ns) (hne : 0 < ns.length)
    (h : ∀ h' tk t' m, (∀ b o, s.heap.get? b = some o → h'.get? b = some o) → maxI ns = some m → Q (.int m t') { s with heap := h', toks := tk }) : wpAny (model prog w) A (call (.builtin "max") [.ref l]) Q E s := by
  obtain ⟨xs, e⟩ := hi.allInts.items
  have hn : numsOf (intItems xs).toList = ns := by rw [← e]; exact hi.numsOf
  rw [nums_intItems] at hn
  rw [e] at hl
  have hlt : l < s.heap.objs.size := hl.lt
  have hs : (intItems xs).size = xs.size := by simp [intItems]
  have hp : 0 < xs.size := by rw [← hn] at hne; simpa using hne
  refine call_max_walk (wpAny_pyIter_tuple hl ?_)
  refine ⟨_, _, _, _, _, _, _, rfl, Walks.tuple (A := A.in1) hh _ l (Nat.ne_of_lt hlt) (intItems xs), ⟨⟨_, Heap.get?_push_size _ rfl, rfl, rfl⟩, hl.push _⟩, (fun b hb => ?_), by rw [hs]; exact hp, CmpOf.ints_gt (numAt xs) (fun _ _ => intItems_at), fun v h' tk hv hk => ?_⟩
  · show b < (s.heap.push _).objs.size
    rw [Heap.size_push]
    rcases List.mem_cons.mp hb with e9 | hb
    · rw [e9]; exact Nat.lt_succ_self _
    · rw [List.mem_singleton.mp hb]; exact Nat.lt_succ_of_lt hlt
  · obtain ⟨t, rfl⟩ := intItems_at hv
    obtain ⟨b1, b2⟩ := argBest_gt (numAt xs) (xs.size - 1)
    refine h h' tk t _ (fun b o eb => hk b o (fun hm => ?_) (Heap.get?_push_of_some _ eb)) (maxI_eq (m := numAt xs (argBest (fun i j => decide (numAt xs i > numAt xs j)) ((intItems xs).size - 1))) ?_ fun y hy => ?_)
    · rw [List.mem_singleton] at hm
      subst hm
      exact absurd (Heap.lt_size eb) (Nat.lt_irrefl _)
    · rw [← hn, hs]
      exact numAt_in (by omega)
    · rw [← hn] at hy
      obtain ⟨j, hj, rfl⟩ := in_numAt hy
      rw [hs]
      exact b2 j (by omega)
theorem min_tupV (hh : A.handled = none) (hl : IsTup s.heap l its.toArray) (hi : IntsAre its ns) (hne : 0 < ns.length)
    (h : ∀ h' tk t' m, (∀ b o, s.heap.get? b = some o → h'.get? b = some o) → minI ns = some m → Q (.int m t') { s with heap := h', toks := tk }) : wpAny (model prog w) A (call (.builtin "min") [.ref l]) Q E s := by
  obtain ⟨xs, e⟩ := hi.allInts.items
  have hn : numsOf (intItems xs).toList = ns := by rw [← e]; exact hi.numsOf
  rw [nums_intItems] at hn
  rw [e] at hl
  have hlt : l < s.heap.objs.size := hl.lt
  have hs : (intItems xs).size = xs.size := by simp [intItems]
  have hp : 0 < xs.size := by rw [← hn] at hne; simpa using hne
  refine call_min_walk (wpAny_pyIter_tuple hl ?_)
  refine ⟨_, _, _, _, _, _, _, rfl, Walks.tuple (A := A.in1) hh _ l (Nat.ne_of_lt hlt) (intItems xs), ⟨⟨_, Heap.get?_push_size _ rfl, rfl, rfl⟩, hl.push _⟩, (fun b hb => ?_), by rw [hs]; exact hp, CmpOf.ints_lt (numAt xs) (fun _ _ => intItems_at), fun v h' tk hv hk => ?_⟩
  · show b < (s.heap.push _).objs.size
    rw [Heap.size_push]
    rcases List.mem_cons.mp hb with e9 | hb
    · rw [e9]; exact Nat.lt_succ_self _
    · rw [List.mem_singleton.mp hb]; exact Nat.lt_succ_of_lt hlt
  · obtain ⟨t, rfl⟩ := intItems_at hv
    obtain ⟨b1, b2⟩ := argBest_lt (numAt xs) (xs.size - 1)
    refine h h' tk t _ (fun b o eb => hk b o (fun hm => ?_) (Heap.get?_push_of_some _ eb)) (minI_eq (m := numAt xs (argBest (fun i j => decide (numAt xs i < numAt xs j)) ((intItems xs).size - 1))) ?_ fun y hy => ?_)
    · rw [List.mem_singleton] at hm
      subst hm
      exact absurd (Heap.lt_size eb) (Nat.lt_irrefl _)
    · rw [← hn, hs]
      exact numAt_in (by omega)
    · rw [← hn] at hy
      obtain ⟨j, hj, rfl⟩ := in_numAt hy
      rw [hs]
      exact b2 j (by omega)
end
section
variable {J : Jx}
theorem maxI_ne {ns : List Int} {m : Int} (h : maxI ns = some m) : 0 < ns.length := by
  cases ns with
  | nil => cases h
  | cons x xs => exact Nat.succ_pos _
theorem minI_ne {ns : List Int} {m : Int} (h : minI ns = some m) : 0 < ns.length := by
  cases ns with
  | nil => cases h
  | cons x xs => exact Nat.succ_pos _
theorem cb_max (hc : J.calm = true) : CallR J.X (.builtin "max") (rDs J.f.T.K maxB) := by
  intro pins s σ H xs us Q I r h
  obtain ⟨W, st, ds, d, w, hv, e, q⟩ := h
  unfold maxB at e
  split at e
  · rename_i ys
    cases e2 : intsD ys with
    | none => rw [e2] at e; cases e
    | some ns =>
      rw [e2] at e
      simp only [Option.bind_some] at e
      cases e3 : maxI ns with
      | none => rw [e3] at e; cases e
      | some m =>
        rw [e3] at e
        cases e
        have := intsD_eq e2
        subst this
        obtain ⟨v, rfl, a, vs, g1, g2, g3⟩ := vws1 hv
        refine cr_max hc pins s σ H [v] us Q I r ⟨a, ns, by rw [g1], ?_, maxI_ne e3, fun m' h1 h2 => ?_⟩
        · rw [g3.ints] at g2
          exact .of g2
        · have := maxI_eq h1 h2
          rw [e3] at this
          cases this
          exact q.imm w rfl
  · rename_i ys
    cases e2 : intsD ys with
    | none => rw [e2] at e; cases e
    | some ns =>
      rw [e2] at e
      simp only [Option.bind_some] at e
      cases e3 : maxI ns with
      | none => rw [e3] at e; cases e
      | some m =>
        rw [e3] at e
        cases e
        have := intsD_eq e2
        subst this
        obtain ⟨v, rfl, a, vs, g1, g2, g3⟩ := vws1 hv
        subst g1
        obtain ⟨its, rv, hl, _⟩ := I.tuple g2.sq
        rw [g3.ints] at rv
        rw [Vals.ref1 r]
        refine max_tupV (I.ok.hd hc) hl rv.ints (maxI_ne e3) fun h' tk t' m' hk hm => ?_
        rw [e3] at hm
        cases hm
        exact ⟨.int _, H, I.kept hk, ⟨_, rfl⟩, q.imm w rfl⟩
  · rename_i i j
    cases e
    obtain ⟨v, u, rfl, h1, h2⟩ := vws2 hv
    exact call_max2 hc pins s σ H [v, u] us Q I r ⟨i, j, by rw [show v = _ from h1, show u = _ from h2], q.imm w rfl⟩
  · cases e
theorem cb_min (hc : J.calm = true) : CallR J.X (.builtin "min") (rDs J.f.T.K minB) := by
  intro pins s σ H xs us Q I r h
  obtain ⟨W, st, ds, d, w, hv, e, q⟩ := h
  unfold minB at e
  split at e
  · rename_i ys
    cases e2 : intsD ys with
    | none => rw [e2] at e; cases e
    | some ns =>
      rw [e2] at e
      simp only [Option.bind_some] at e
      cases e3 : minI ns with
      | none => rw [e3] at e; cases e
      | some m =>
        rw [e3] at e
        cases e
        have := intsD_eq e2
        subst this
        obtain ⟨v, rfl, a, vs, g1, g2, g3⟩ := vws1 hv
        refine cr_min hc pins s σ H [v] us Q I r ⟨a, ns, by rw [g1], ?_, minI_ne e3, fun m' h1 h2 => ?_⟩
        · rw [g3.ints] at g2
          exact .of g2
        · have := minI_eq h1 h2
          rw [e3] at this
          cases this
          exact q.imm w rfl
  · rename_i ys
    cases e2 : intsD ys with
    | none => rw [e2] at e; cases e
    | some ns =>
      rw [e2] at e
      simp only [Option.bind_some] at e
      cases e3 : minI ns with
      | none => rw [e3] at e; cases e
      | some m =>
        rw [e3] at e
        cases e
        have := intsD_eq e2
        subst this
        obtain ⟨v, rfl, a, vs, g1, g2, g3⟩ := vws1 hv
        subst g1
        obtain ⟨its, rv, hl, _⟩ := I.tuple g2.sq
        rw [g3.ints] at rv
        rw [Vals.ref1 r]
        refine min_tupV (I.ok.hd hc) hl rv.ints (minI_ne e3) fun h' tk t' m' hk hm => ?_
        rw [e3] at hm
        cases hm
        exact ⟨.int _, H, I.kept hk, ⟨_, rfl⟩, q.imm w rfl⟩
  · rename_i i j
    cases e
    obtain ⟨v, u, rfl, h1, h2⟩ := vws2 hv
    exact call_min2 hc pins s σ H [v, u] us Q I r ⟨i, j, by rw [show v = _ from h1, show u = _ from h2], q.imm w rfl⟩
  · cases e
variable {a b c e : Expr} {fa fb fc : EF} {pos : Pos}
/-- list(x) of a list or a tuple: fresh -/
theorem ml_list {x : Str} {p : Pos} {h : HF} (hg : Gl J.X x) (hm : J.f.T.mg x = none) (hv : bootBuiltins x = some (.type "list")) (ha : MH J [e] h)
    (hn : x ≠ "__name__" := by decide) (hdb : (x == ("__debug__" : Str)) = false := by decide) (he : starEach [e] J.X.env = (false, eval e J.X.env) :: starEach [] J.X.env := by rfl) (hpl : (backTo pos (starEach [] J.X.env)).any (·.1) = false := by rfl) :
    ML J (.Call (.Name x p) [e] [] pos) (lCall listB h) := by
  refine PE.up (pe_callTy call_list_of hg hm hv ha hn hdb he hpl) fun σ H Q q => ?_
  obtain ⟨W, ρ, st, r, q⟩ := q
  unfold lCall at q
  refine ⟨W, ρ, st, r, ?_⟩
  cases e1 : h ρ st with
  | exc c v st2 => rw [e1] at q; first | exact q | exact XO.per s1.toPer q | exact XO.per (s1.trans s2).toPer q | exact XO.per ((s1.trans s2).trans s3).toPer q
  | bad => rw [e1] at q; exact q
  | ok rs st1 =>
    rw [e1] at q
    simp only [Out.bind_ok] at q
    intro W1 H1 vs r1 s1 h1
    cases e2 : views ρ st1 rs with
    | none => rw [e2] at q; exact q.elim
    | some ds =>
      rw [e2] at q
      simp only at q
      have hv := Vws.of r1 h1 e2
      cases e3 : listB ds with
      | none => rw [e3] at q; exact q.elim
      | some xs =>
        rw [e3] at q
        simp only [Out.of_some] at q
        have fin : ∀ {us : List V}, Dats J.f.T.K W1 H1 xs us → ∀ p, H1 p = none → Q (.ref p) (upd H1 p (.lst us)) := fun {us} hd p hp =>
          q _ _ p us (r1.claim hp (r1.wok.own hp (.lst us))) (s1.trans (Step.own r1.wok hp _)) (Step.fr r.wok r1.wok s1 hp) upd_same (Dats.per (Step.own r1.wok hp _).toPer _ _ hd)
        unfold listB at e3
        split at e3
        · cases e3
          obtain ⟨v, rfl, a, us, g1, g2, g3⟩ := vws1 hv
          exact ⟨a, us, by rw [g1], .inl (.of g2), fun p hp => fin g3 p hp⟩
        · cases e3
          obtain ⟨v, rfl, a, us, g1, g2, g3⟩ := vws1 hv
          exact ⟨a, us, by rw [g1], .inr g2.sq, fun p hp => fin g3 p hp⟩
        · cases e3
end
end DL

/-! DLR: isinstance; enumerate. -/
namespace DL
open PySem L2 PySem.Spec PyProof.Rows
def tyName : D → String
  | .non => "NoneType" | .bl _ => "bool" | .int _ => "int" | .str _ => "str" | .tup _ => "tuple" | .lst _ => "list" | .scr _ => "list" | .ref _ => "list" | .dic _ _ => "dict"
theorem tyx_of {K : PySem.W.Frag} {W : Wd} {H : Hp} {d : D} {v : V} (h : Vw K W H d v) : TyX K H v (.type (tyName d)) := by
  cases d with
  | non => rw [show v = _ from h]; exact .base .non
  | bl b => rw [show v = _ from h]; exact .base (.bl b)
  | int i => rw [show v = _ from h]; exact .base (.int i)
  | str x => rw [show v = _ from h]; exact .base (.str x)
  | tup ds =>
    obtain ⟨a, vs, e1, e2, e3⟩ := h
    subst e1
    rcases e2 with ⟨_, e2⟩ | ⟨o, its, n, lk, c, _⟩
    · exact .base (.tup e2)
    · exact .kTuple lk c
  | lst ds =>
    obtain ⟨a, vs, e1, e2, e3⟩ := h
    subst e1
    exact .base (.lst e2)
  | scr ns =>
    obtain ⟨a, e1, e2⟩ := h
    subst e1
    rcases e2 with ⟨_, o, e2⟩ | ⟨o, its, n, lk, c, _⟩
    · exact .base (.frz e2)
    · exact .kList lk c
  | dic ks ds =>
    obtain ⟨a, kvs, e1, _, e2, _⟩ := h
    subst e1
    exact .base (.dK e2)
  | ref n => exact h.elim
theorem TyX.laid {K : PySem.W.Frag} {H : Hp} {v : V} {t : Value} (h : TyX K H v t) {p : Addr} (hp : H p = none) (o : HO) : TyX K (upd H p o) v t := by
  cases h with
  | base h =>
    refine .base ?_
    cases h with
    | lst e => exact .lst (by rw [upd_ne (ne_of_none e hp)]; exact e)
    | frz e => exact .frz (by rw [upd_ne (ne_of_none e hp)]; exact e)
    | tup e => exact .tup (by rw [upd_ne (ne_of_none e hp)]; exact e)
    | dK e => exact .dK (by rw [upd_ne (ne_of_none e hp)]; exact e)
    | dT e => exact .dT (by rw [upd_ne (ne_of_none e hp)]; exact e)
    | ins e cl ha hn htk hm => exact .ins (by rw [upd_ne (ne_of_none e hp)]; exact e) cl ha hn htk hm
    | non => exact .non
    | bl x => exact .bl x
    | int x => exact .int x
    | str x => exact .str x
    | flt x => exact .flt x
  | byt b => exact .byt b
  | set e => exact .set (by rw [upd_ne (ne_of_none e hp)]; exact e)
  | kList e c => exact .kList e c
  | kTuple e c => exact .kTuple e c
  | kDict e c => exact .kDict e c
  | fTuple e => exact .fTuple (by rw [upd_ne (ne_of_none e hp)]; exact e)
  | fDict e => exact .fDict (by rw [upd_ne (ne_of_none e hp)]; exact e)
/-- the built-in classes that are asked for -/
def kinds : List String := ["int", "bool", "str", "list", "tuple", "dict", "float", "set"]
theorem kit_all : ∀ T ∈ kinds, ∀ n ∈ ["NoneType", "bool", "int", "str", "tuple", "list", "dict"], kitB n T = some (n == T || (n == "bool" && T == "int")) := by decide +kernel
theorem ty_in (d : D) (b : Bool) (T : String) (h : isD T d = some b) : tyName d ∈ ["NoneType", "bool", "int", "str", "tuple", "list", "dict"] := by
  cases d <;> simp [tyName, isD] at h ⊢
theorem kit_isD {K : PySem.W.Frag} {T : String} (hT : T ∈ kinds) {d : D} {b : Bool} (h : isD T d = some b) : PySem.W.kitOne K (.type (tyName d)) (.type T) = some b := by
  refine kit_ty ?_
  rw [kit_all T hT _ (ty_in d b T h)]
  congr 1
  simp only [kinds, List.mem_cons, List.not_mem_nil, or_false] at hT
  cases d <;> simp only [isD, Option.some.injEq, reduceCtorEq] at h <;> subst h <;> rcases hT with rfl | rfl | rfl | rfl | rfl | rfl | rfl | rfl <;> rfl
section
variable {J : Jx} {a b c e : Expr} {fa fb fc : EF} {pos : Pos}
theorem is_core {Ts : List String} {σ : L2.St} {H : Hp} {Q : VK} {W : Wd} {ρ : Env} {st : Store} (r : RelS J.f [] W H σ ρ st)
    (q : match eIs Ts fa ρ st with | .ok r st' => ∀ W' H' v, RelS J.f [] W' H' σ ρ st' → Step W H W' H' → HR J.f W' H' σ ρ v r → Q v H' | .exc c v st' => XO J.EW W H ρ st' c v | .bad => False)
    {Q' : VK} (k : ∀ W1 H1 v d bs, Vw J.f.T.K W1 H1 d v → (Ts.mapM fun T => isD T d) = some bs → (∀ H2, (∀ st1, WOk J.f.T.K W1 H1 st1 → ∃ W2, Step W1 H1 W2 H2 ∧ WOk J.f.T.K W2 H2 st1) → Q (.bl (bs.any id)) H2) → Q' v H1) : rdE J.f J.EW fa σ H Q' := by
  unfold eIs at q
  refine ⟨W, ρ, st, r, ?_⟩
  cases e1 : fa ρ st with
  | exc c v st2 => rw [e1] at q; first | exact q | exact XO.per s1.toPer q | exact XO.per (s1.trans s2).toPer q | exact XO.per ((s1.trans s2).trans s3).toPer q
  | bad => rw [e1] at q; exact q
  | ok x st1 =>
    rw [e1] at q
    simp only [Out.bind_ok] at q
    intro W1 H1 v r1 s1 h1
    cases e2 : view ρ st1 x with
    | none => rw [e2] at q; exact q.elim
    | some d =>
      rw [e2] at q
      simp only at q
      cases e3 : (Ts.mapM fun T => isD T d) with
      | none => rw [e3] at q; exact q.elim
      | some bs =>
        rw [e3] at q
        refine k W1 H1 v d bs (Vw.of r1 h1 e2) e3 fun H2 k2 => ?_
        obtain ⟨W2, s2, w2⟩ := k2 _ r1.wok
        exact q W2 H2 _ (r1.step s2 w2) (s1.trans s2) rfl
/-- isinstance(x, T) -/
theorem me_is (T : String) {x y : Str} {p p2 : Pos} (he : ME J e fa) (hg : Gl J.X x) (hm : J.f.T.mg x = none) (hv : bootBuiltins x = some (.builtin "isinstance")) (hgT : Gl J.X y) (hmT : J.f.T.mg y = none) (hvT : bootBuiltins y = some (.type T)) (hT : T ∈ kinds := by decide)
    (hn : x ≠ "__name__" := by decide) (hdb : (x == ("__debug__" : Str)) = false := by decide) (hn2 : y ≠ "__name__" := by decide) (hdb2 : (y == ("__debug__" : Str)) = false := by decide)
    (hs : starEach [e, .Name y p2] J.X.env = (false, eval e J.X.env) :: starEach [.Name y p2] J.X.env := by rfl) (hpl : (backTo pos (starEach [.Name y p2] J.X.env)).any (·.1) = false := by rfl) :
    ME J (.Call (.Name x p) [e, .Name y p2] [] pos) (eIs [T] fa) := by
  refine PE.up (pe_callB (X := J.X) call_isi hg hm hv (pa_cons he (pa_cons (pe_bltn (v := .ty T) hgT hmT hvT rfl hn2 hdb2) pa_nil) hs) hn hdb hs hpl) fun σ H Q q => ?_
  obtain ⟨W, ρ, st, r, q⟩ := q
  refine is_core r q fun W1 H1 v d bs hw hb k => ?_
  have hb2 : ∃ b, isD T d = some b ∧ bs = [b] := by
    cases e : isD T d with
    | none => simp [List.mapM_cons, e] at hb
    | some b => simp [List.mapM_cons, e] at hb; exact ⟨b, rfl, hb.symm⟩
  obtain ⟨b, h1, rfl⟩ := hb2
  refine ⟨v, .ty T, .type (tyName d), .type T, b, rfl, .ty T, tyx_of hw, kit_isD hT h1, ?_⟩
  have := k H1 fun _ w => ⟨W1, Step.refl .., w⟩
  simpa using this
/-- isinstance(x, (T, U)) -/
theorem me_is2 (T U : String) {x y z : Str} {p p2 p3 p4 : Pos} {k2 : Nat} (he : ME J e fa) (hg : Gl J.X x) (hm : J.f.T.mg x = none) (hv : bootBuiltins x = some (.builtin "isinstance")) (hgT : Gl J.X y) (hmT : J.f.T.mg y = none) (hvT : bootBuiltins y = some (.type T))
    (hgU : Gl J.X z) (hmU : J.f.T.mg z = none) (hvU : bootBuiltins z = some (.type U)) (hT : T ∈ kinds := by decide) (hU : U ∈ kinds := by decide)
    (hn : x ≠ "__name__" := by decide) (hdb : (x == ("__debug__" : Str)) = false := by decide) (hn2 : y ≠ "__name__" := by decide) (hdb2 : (y == ("__debug__" : Str)) = false := by decide) (hn3 : z ≠ "__name__" := by decide) (hdb3 : (z == ("__debug__" : Str)) = false := by decide)
    (hs : starEach [e, .Tuple [.Name y p2, .Name z p3] k2 p4] J.X.env = (false, eval e J.X.env) :: starEach [.Tuple [.Name y p2, .Name z p3] k2 p4] J.X.env := by rfl) (hpl : (backTo pos (starEach [.Tuple [.Name y p2, .Name z p3] k2 p4] J.X.env)).any (·.1) = false := by rfl) :
    ME J (.Call (.Name x p) [e, .Tuple [.Name y p2, .Name z p3] k2 p4] [] pos) (eIs [T, U] fa) := by
  refine PE.up (pe_callB (X := J.X) call_isiT hg hm hv (pa_cons he (pa_cons (pe_tup (pa_cons (pe_bltn (v := .ty T) hgT hmT hvT rfl hn2 hdb2) (pa_cons (pe_bltn (v := .ty U) hgU hmU hvU rfl hn3 hdb3) pa_nil))) pa_nil) hs) hn hdb hs hpl) fun σ H Q q => ?_
  obtain ⟨W, ρ, st, r, q⟩ := q
  refine is_core r q fun W1 H1 v d bs hw hb k => ?_
  have hb2 : ∃ b c, isD T d = some b ∧ isD U d = some c ∧ bs = [b, c] := by
    cases e : isD T d with
    | none => simp [List.mapM_cons, e] at hb
    | some b =>
      cases e2 : isD U d with
      | none => simp [List.mapM_cons, e, e2] at hb
      | some c => simp [List.mapM_cons, e, e2] at hb; exact ⟨b, c, rfl, rfl, hb.symm⟩
  obtain ⟨b, c, h1, h2, rfl⟩ := hb2
  refine ⟨by show 2 ≤ sizeLine; decide, fun tp hp => ?_⟩
  have hw2 := TyX.laid (tyx_of hw) hp (.tup [.ty T, .ty U])
  have kk : PySem.W.kitAny J.f.T.K (.type (tyName d)) [.type T, .type U] = some (b || c) := by
    refine kitAny_cons (kit_isD hT h1) (fun hb => ?_) fun hb => by rw [hb]; rfl
    subst hb
    refine kitAny_cons (kit_isD hU h2) (fun hc => ?_) fun hc => by rw [hc]; rfl
    subst hc
    exact kitAny_nil
  refine ⟨v, tp, [.ty T, .ty U], _, [.type T, .type U], _, rfl, upd_same, .cons (.ty T) (.cons (.ty U) .nil), hw2, kk, ?_⟩
  have := k (upd H1 tp (.tup [.ty T, .ty U])) fun st1 w => ⟨W1, Step.own w hp _, w.own hp _⟩
  simpa using this
end
open AutoSeq1 (wpAny_loadPart')
theorem newEnumT (l : Addr) (items : Array Value) (n : Nat) (dct : Option Addr) (sl : Array (Option Value)) :
    Meets (Builtin.«enumerate.__new__» ⟨[.type "enumerate", .ref l], []⟩) (fun _ R s => s.heap.get? l = some { cls := .type "tuple", dict := dct, data := .seq items n, slots := sl } ∧
      R (.ok (.ret (.ref (s.heap.push { cls := .type "tuple_iterator", data := .fields #[.ref l, .int 0 0] }).objs.size)))
        { s with heap := (s.heap.push { cls := .type "tuple_iterator", data := .fields #[.ref l, .int 0 0] }).push { cls := .type "enumerate", data := .fields #[.none, .bool false, .ref s.heap.objs.size, rawInt 0, .none, .none] } }) :=
  .of_wp fun prog w A R s h => by
    obtain ⟨hp, g, d, tk, os⟩ := s
    obtain ⟨hl, h⟩ := h
    have hsub := sub_enumerate
    have tup : Heap.IsTuple (Shared.heap ⟨hp, g, d, tk, os⟩) l items := ⟨_, hl, rfl, n, rfl⟩
    wp_walk using wpAny_loadPart' hl
    refine wpAny_stack_any fun q => wpAny_pure ?_
    split
    · rename_i c _ _ _ _ _
      cases (c == Value.type "enumerate") <;> (wp_walk using wpAny_loadPart' hl, wpAny_pyIter_tuple tup) <;> exact ⟨_, rfl, h⟩
    · wp_walk using wpAny_loadPart' hl, wpAny_pyIter_tuple tup
      exact ⟨_, rfl, h⟩
theorem callEnumT {prog : Program} {w : World} {A : Around} {E : Value → Shared → Prop} {s : Shared} {l : Addr} {items : Array Value} {Q : Value → Shared → Prop} (hL : s.heap.IsTuple l items)
    (h : ∀ h', IsEnum h' (s.heap.objs.size + 1) s.heap.objs.size 0 .none → h'.IsTupleIter s.heap.objs.size l 0 → (∀ b o, s.heap.get? b = some o → h'.get? b = some o) → Q (.ref (s.heap.objs.size + 1)) { s with heap := h' }) :
    wpAny (model prog w) A (call (.type "enumerate") [.ref l]) Q E s := by
  obtain ⟨⟨c, dct, dt, sl⟩, hl, hc, n, hd⟩ := hL
  have hc : c = .type "tuple" := hc
  have hd : dt = .seq items n := hd
  subst hc hd
  refine callType_new F.called_enumerate (by decide) (F.typeCall_enumerate_1 _) (F.newCall_enumerate_1 _) (fun obj => F.args_object_init_2 obj _) F.entry_enumerate_new (newEnumT l items n dct sl) ⟨hl, ?_⟩
  generalize hX : s.heap.push { cls := .type "tuple_iterator", data := .fields #[.ref l, .int 0 0] } = X
  have hz : X.objs.size = s.heap.objs.size + 1 := by rw [← hX]; exact Heap.size_push ..
  have itX : X.get? s.heap.objs.size = some { cls := .type "tuple_iterator", data := .fields #[.ref l, .int 0 0] } := by rw [← hX]; exact Heap.get?_push_size _ rfl
  have kX : ∀ b o, s.heap.get? b = some o → X.get? b = some o := fun b o q => by rw [← hX]; exact Heap.get?_push_of_some _ q
  have he : IsEnum (X.push { cls := .type "enumerate", data := .fields #[.none, .bool false, .ref s.heap.objs.size, rawInt 0, .none, .none] }) (s.heap.objs.size + 1) s.heap.objs.size 0 .none := by
    have q := Heap.get?_push_size X (o := { cls := .type "enumerate", data := .fields #[.none, .bool false, .ref s.heap.objs.size, rawInt 0, .none, .none] }) rfl
    rw [hz] at q
    exact q
  show _ ∧ _
  rw [hz]
  exact ⟨⟨_, he, rfl⟩, h _ he ⟨_, Heap.get?_push_of_some _ itX, rfl, rfl⟩ fun b o q => Heap.get?_push_of_some _ (kX b o q)⟩
/-- enumerate of the tuple at a -/
def ItE (K : PySem.W.Frag) (a : Addr) : It :=
  ⟨fun i H => ∃ (xs : List V) (x : V), SqT K H a xs ∧ xs[i]? = some x, fun i H v H' => ∃ T x, v = .ref T ∧ H T = none ∧ H' = upd H T (.tup [.int (i : Nat), x]) ∧ ∀ xs, SqT K H a xs → xs[i]? = some x, fun i H => ∃ xs : List V, SqT K H a xs ∧ xs.length = i⟩
theorem turnE {P : Program} {w : World} {K : PySem.W.Frag} {elts : List Expr} {kk : Nat} {tpos : Pos} (a e it : Addr) :
    Turn P w K (.Tuple elts kk tpos) (ItE K a) [e, it] e (fun i h => (∃ old, IsEnum h e it ((i : Nat) : Int) old) ∧ h.IsTupleIter it a i ∧ e ≠ it) where
  mem := List.mem_cons_self ..
  obj := fun i h tn b hb => by
    obtain ⟨⟨old, he⟩, ⟨o, ho, hc, hd⟩, _⟩ := tn
    rcases List.mem_cons.mp hb with z | z
    · subst z
      exact ⟨_, he, fun v q => nomatch q⟩
    · have z := List.mem_singleton.mp z
      subst z
      exact ⟨o, ho, fun v q => by rw [hd] at q; cases q⟩
  keep := fun i h h' tn k => by
    obtain ⟨⟨old, he⟩, hi, hne⟩ := tn
    exact ⟨⟨old, k e (List.mem_cons_self ..) _ he⟩, hi.at fun o q => k it (List.mem_cons_of_mem _ (List.mem_singleton.mpr rfl)) o q, hne⟩
  item := by
    intro X hP hw hK hc i pins s σ H E I hf tn hg
    subst hP hw hK
    obtain ⟨⟨old, he⟩, hit, hne⟩ := tn
    obtain ⟨xs, x, hq, hx⟩ := hg
    obtain ⟨its, rv, p, hz⟩ := I.tuple hq
    obtain ⟨u, hu, ru⟩ := rv.get hx
    have hel : e < s.heap.objs.size := Heap.lt_size he
    have hil : it < s.heap.objs.size := by obtain ⟨_, q, _⟩ := hit; exact Heap.lt_size q
    have hai : a ≠ it := by
      intro z
      subst z
      obtain ⟨o1, g1, c1, _⟩ := hit
      obtain ⟨o2, g2, c2, _⟩ := p
      rw [g1] at g2
      cases g2
      rw [c1] at c2
      exact absurd (Value.type.inj c2) (by decide)
    have hae : a ≠ e := by
      intro z
      subst z
      obtain ⟨o2, g2, c2, _⟩ := p
      have g1 : s.heap.get? a = some _ := he
      rw [g1] at g2
      cases g2
      exact absurd (Value.type.inj c2) (by decide)
    have hlt : i < its.length := (List.getElem?_eq_some_iff.mp hu).1
    refine wpAny_pyNext_enum_itemD (Draws.tuple (A := X.A.in1) (I.ok.hd hc) it a hai its.toArray) he ⟨hit, p⟩ (by simpa using hlt) hne (by simp [hne, hae.symm]) fun y h' tk hy ho st' hT hsz hk => ?_
    have ey : y = u := by
      have hy' : its.toArray[i]? = some y := hy
      rw [List.getElem?_toArray, hu] at hy'
      exact (Option.some.inj hy').symm
    subst ey
    refine ⟨_, rfl, wpAny_letOwnedTupleGo_enum (s := { s with heap := h', toks := tk + 1 }) ho fun h'' he' sb => ?_⟩
    have hT2 : h''.get? s.heap.objs.size = some { cls := .type "tuple", data := .seq #[.int i tk, y] } := (sb.2 _ (Nat.ne_of_gt hel)).trans hT
    have new : ObjOk X.prog X.w (upd H s.heap.objs.size (.tup [.int (i : Nat), x])) h'' s.heap.objs.size (.tup [.int (i : Nat), x]) :=
      ⟨by show 2 ≤ sizeLine; decide, [.int i tk, y], .cons ⟨_, rfl⟩ (.cons ru .nil), ⟨_, hT2, rfl, _, rfl⟩⟩
    have ne_of : ∀ {b}, b ∉ [e, it] → b ≠ e ∧ b ≠ it := fun {b} hb => ⟨fun z => hb (z ▸ List.mem_cons_self ..), fun z => hb (z ▸ List.mem_cons_of_mem _ (List.mem_singleton.mpr rfl))⟩
    have I1 : Inv X pins σ (upd H s.heap.objs.size (.tup [.int (i : Nat), x])) { s with heap := h'', toks := tk + 1 } :=
      I.turnedNew (ch := [e, it]) (fun b ob hb q => (sb.2 b (ne_of hb).1).trans (hk b ob (ne_of hb).1 (ne_of hb).2 q)) hf (Nat.le_refl _) new
    refine ⟨.ref s.heap.objs.size, _, I1, rfl, ⟨_, x, rfl, I.hok.fresh (Nat.le_refl _), rfl, fun ys hy => ?_⟩, ⟨⟨y, ?_⟩, st'.1.at fun o q => (sb.2 it hne.symm).trans q, hne⟩, fun b hb => ?_⟩
    · rw [I.tuple_inj hy hq]; exact hx
    · rw [show ((i + 1 : Nat) : Int) = (i : Int) + 1 by omega]; exact he'
    · have hb' : b < s.heap.objs.size := by
        rcases List.mem_cons.mp hb with z | z
        · rw [z]; exact hel
        · rw [List.mem_singleton.mp z]; exact hil
      rw [upd_ne (Nat.ne_of_lt hb')]
      exact (hf b hb).1
  done := by
    intro X hP hw hK hc i pins s σ H E I hf tn hg
    subst hP hw hK
    obtain ⟨⟨old, he⟩, hit, hne⟩ := tn
    obtain ⟨xs, hq, hx⟩ := hg
    obtain ⟨its, rv, p, hz⟩ := I.tuple hq
    have hl := rv.length
    have hai : a ≠ it := by
      intro z
      subst z
      obtain ⟨o1, g1, c1, _⟩ := hit
      obtain ⟨o2, g2, c2, _⟩ := p
      rw [g1] at g2
      cases g2
      rw [c1] at c2
      exact absurd (Value.type.inj c2) (by decide)
    obtain ⟨f0, f1, f2, f3, f4, f5⟩ := hf it (List.mem_cons_of_mem _ (List.mem_singleton.mpr rfl))
    have en : i = its.toArray.size := by rw [List.size_toArray]; omega
    subst en
    exact wpAny_pyNext_enum_endD (Draws.tuple (A := X.A.in1) (I.ok.hd hc) it a hai its.toArray) he ⟨hit, p⟩ fun h' eb => ⟨rfl, I.turned (t' := s.toks) (fun b o hb q => eb b o hb q) f0 f1 f3 f4 f5⟩
  self := fun A i s Q E st h => let ⟨⟨_, he⟩, _⟩ := st; wpAny_pyIter_enum he h
theorem enumD_get {ds : List D} {i : Nat} {d : D} (h : (enumD ds)[i]? = some d) : ∃ x, ds[i]? = some x ∧ d = .tup [.int (i : Nat), x] := by
  unfold enumD at h
  rw [List.getElem?_map, List.getElem?_zipIdx] at h
  cases e : ds[i]? with
  | none => rw [e] at h; cases h
  | some x =>
    rw [e] at h
    simp only [Option.map_some, Nat.zero_add, Option.some.injEq] at h
    exact ⟨x, rfl, h.symm⟩
theorem enumD_len (ds : List D) : (enumD ds).length = ds.length := by simp [enumD]
theorem itd_enumL {K : PySem.W.Frag} {W : Wd} {H : Hp} {a : Addr} {vs : List V} {ds : List D} (h : FzL W H a vs) (hd : Dats K W H ds vs) : ItD K (Ite K a) W H (enumD ds) := by
  refine ⟨fun W' H' st p w i hi => ?_, fun W' H' st p w => ?_, fun W' H' st p w i d x H2 hi y => ?_⟩
  · rw [enumD_len] at hi
    obtain ⟨v, h1, _⟩ := hd.get (List.getElem?_eq_getElem hi)
    exact ⟨vs, v, (h.per p).sq, h1⟩
  · exact ⟨vs, (h.per p).sq, by rw [enumD_len, ← hd.len]; exact Nat.le_refl _⟩
  · obtain ⟨z, hz, rfl⟩ := enumD_get hi
    obtain ⟨T, x', rfl, hT, rfl, y⟩ := y
    obtain ⟨v, h1, h2⟩ := hd.get hz
    have := y vs (h.per p).sq
    rw [h1] at this
    cases this
    have hh := Dats.cons (K := K) (W := W') (H := H') (d := .int (i : Nat)) (v := .int (i : Nat)) rfl (Dats.cons (Dat.per p _ _ h2) Dats.nil)
    have s := Step.laid w hT (.tup [.int (i : Nat), x'])
    exact ⟨_, s, w.laid hT _, T, _, rfl, .inl ⟨.inl rfl, upd_same⟩, Dats.per s.toPer _ _ hh⟩
theorem itd_enumT {K : PySem.W.Frag} {W : Wd} {H : Hp} {a : Addr} {vs : List V} {ds : List D} (h : FzT K W H a vs) (hd : Dats K W H ds vs) : ItD K (ItE K a) W H (enumD ds) := by
  refine ⟨fun W' H' st p w i hi => ?_, fun W' H' st p w => ?_, fun W' H' st p w i d x H2 hi y => ?_⟩
  · rw [enumD_len] at hi
    obtain ⟨v, h1, _⟩ := hd.get (List.getElem?_eq_getElem hi)
    exact ⟨vs, v, (h.per p).sq, h1⟩
  · exact ⟨vs, (h.per p).sq, by rw [enumD_len, ← hd.len]⟩
  · obtain ⟨z, hz, rfl⟩ := enumD_get hi
    obtain ⟨T, x', rfl, hT, rfl, y⟩ := y
    obtain ⟨v, h1, h2⟩ := hd.get hz
    have := y vs (h.per p).sq
    rw [h1] at this
    cases this
    have hh := Dats.cons (K := K) (W := W') (H := H') (d := .int (i : Nat)) (v := .int (i : Nat)) rfl (Dats.cons (Dat.per p _ _ h2) Dats.nil)
    have s := Step.laid w hT (.tup [.int (i : Nat), x'])
    exact ⟨_, s, w.laid hT _, T, _, rfl, .inl ⟨.inl rfl, upd_same⟩, Dats.per s.toPer _ _ hh⟩
section
variable {J : Jx} {a b c e : Expr} {fa fb fc : EF} {pos : Pos}
theorem pi_enumT {X : Cx} {e : Expr} {ta : TA} {p pos tpos : Pos} {elts : List Expr} {kk : Nat} (hg : Gl X "enumerate") (hm : X.mg "enumerate" = none) (ha : PA X [e] ta) (hs : starEach [e] X.env = [(false, eval e X.env)] := by rfl) :
    PI X (.Tuple elts kk tpos) (.Call (.Name "enumerate" p) [e] [] pos) (fun σ H R => ta σ H fun vs H1 => ∃ a xs, vs = [.ref a] ∧ SqT X.K H1 a xs ∧ R (ItE X.K a) H1) := by
  refine ⟨fun pins s σ H R I h => ?_⟩
  refine Call_ (ld_blt I hg hm boot_enumerate (PyProof.Rows.callWith_type1 (thn (ha.run pos pins s σ H _ I h) fun us s1 hq => ?_) hs rfl))
  obtain ⟨vs, H1, I1, r1, a, xs, ex, hx, q⟩ := hq
  subst ex
  obtain ⟨u, rfl, ru⟩ := r1.one
  cases ru
  obtain ⟨its, rv, p', hz⟩ := I1.tuple hx
  refine callEnumT p' fun h' he hit hk => wpAny_pyIter_enum he ?_
  have I2 : Inv X pins σ H1 { s1 with heap := h' } := I1.kept (t' := s1.toks) hk
  refine ⟨s1.heap.objs.size + 1, [s1.heap.objs.size + 1, s1.heap.objs.size], _, _, H1, rfl, I2, turnE a (s1.heap.objs.size + 1) s1.heap.objs.size, ⟨⟨.none, he⟩, hit, Nat.succ_ne_self _⟩, fun b hb => ?_, q⟩
  have hle : s1.heap.objs.size ≤ b := by
    rcases List.mem_cons.mp hb with z | z
    · rw [z]; exact Nat.le_succ _
    · rw [List.mem_singleton.mp z]; exact Nat.le_refl _
  exact I1.fpOk hle (I1.hok.fresh hle)
theorem mi_enumL {p tpos : Pos} {elts : List Expr} {kk : Nat} {g : AF} (hg : Gl J.X "enumerate") (hm : J.f.T.mg "enumerate" = none) (ha : MA J [e] g) (hs : starEach [e] J.X.env = [(false, eval e J.X.env)] := by rfl) :
    MI J (.Tuple elts kk tpos) (.Call (.Name "enumerate" p) [e] [] pos) (iEnumL g) := by
  refine PI.up (pi_enum hg hm ha.1 hs) fun σ H R q => ?_
  obtain ⟨W, ρ, st, r, q⟩ := q
  refine ⟨W, ρ, st, r, ?_⟩
  unfold iEnumL at q
  cases e : g ρ st with
  | exc c v st2 => rw [e] at q; first | exact q | exact XO.per s1.toPer q | exact XO.per (s1.trans s2).toPer q | exact XO.per ((s1.trans s2).trans s3).toPer q
  | bad => rw [e] at q; exact q
  | ok ds st1 =>
    rw [e] at q
    simp only [Out.bind_ok] at q
    intro W1 H1 vs r1 s1 h1
    split at q
    · rename_i o ds' st' hz
      split at hz
      · cases hz
        obtain ⟨v, r2, e1, ⟨p, us, e2, e3, e4⟩, e5⟩ := h1
        have e5 : r2 = [] := e5
        subst e1 e2 e5
        exact ⟨p, us, rfl, e3.sq, q W1 H1 _ r1 s1 (itd_enumL e3 e4)⟩
      · cases hz
    · rename_i hz
      split at hz <;> cases hz
    · exact q.elim
theorem mi_enumT {p tpos : Pos} {elts : List Expr} {kk : Nat} {g : AF} (hg : Gl J.X "enumerate") (hm : J.f.T.mg "enumerate" = none) (ha : MA J [e] g) (hs : starEach [e] J.X.env = [(false, eval e J.X.env)] := by rfl) :
    MI J (.Tuple elts kk tpos) (.Call (.Name "enumerate" p) [e] [] pos) (iEnumT g) := by
  refine PI.up (pi_enumT hg hm ha.1 hs) fun σ H R q => ?_
  obtain ⟨W, ρ, st, r, q⟩ := q
  refine ⟨W, ρ, st, r, ?_⟩
  unfold iEnumT at q
  cases e : g ρ st with
  | exc c v st2 => rw [e] at q; first | exact q | exact XO.per s1.toPer q | exact XO.per (s1.trans s2).toPer q | exact XO.per ((s1.trans s2).trans s3).toPer q
  | bad => rw [e] at q; exact q
  | ok ds st1 =>
    rw [e] at q
    simp only [Out.bind_ok] at q
    intro W1 H1 vs r1 s1 h1
    split at q
    · rename_i o ds' st' hz
      split at hz
      · cases hz
        obtain ⟨v, r2, e1, ⟨p, us, e2, e3, e4⟩, e5⟩ := h1
        have e5 : r2 = [] := e5
        subst e1 e2 e5
        exact ⟨p, us, rfl, e3.sq, q W1 H1 _ r1 s1 (itd_enumT e3 e4)⟩
      · cases hz
    · rename_i hz
      split at hz <;> cases hz
    · exact q.elim
/-- either, as the mirror says -/
theorem mi_enum {p tpos : Pos} {elts : List Expr} {kk : Nat} {g : AF} (hg : Gl J.X "enumerate") (hm : J.f.T.mg "enumerate" = none) (ha : MA J [e] g) (hs : starEach [e] J.X.env = [(false, eval e J.X.env)] := by rfl) :
    MI J (.Tuple elts kk tpos) (.Call (.Name "enumerate" p) [e] [] pos) (iEnumF g) := by
  refine ⟨fun pins s σ H R I q => ?_⟩
  obtain ⟨W, ρ, st, r, q⟩ := q
  unfold iEnumF at q
  have toL : ∀ o, iEnumL g ρ st = o → (match o with | .ok ds st' => ∀ W' H' I, RelS J.f [] W' H' σ ρ st' → Step W H W' H' → ItD J.f.T.K I W' H' ds → R I H' | .exc c v st' => XO J.EW W H ρ st' c v | .bad => False) → rdI J.f J.EW (iEnumL g) σ H R := by
    intro o ho hq
    refine ⟨W, ρ, st, r, ?_⟩
    rw [ho]
    exact hq
  have toT : ∀ o, iEnumT g ρ st = o → (match o with | .ok ds st' => ∀ W' H' I, RelS J.f [] W' H' σ ρ st' → Step W H W' H' → ItD J.f.T.K I W' H' ds → R I H' | .exc c v st' => XO J.EW W H ρ st' c v | .bad => False) → rdI J.f J.EW (iEnumT g) σ H R := by
    intro o ho hq
    refine ⟨W, ρ, st, r, ?_⟩
    rw [ho]
    exact hq
  cases e : g ρ st with
  | exc c v st2 =>
    rw [e] at q
    exact (mi_enumL hg hm ha hs).run pins s σ H R I (toL (.exc c v st2) (by unfold iEnumL; rw [e]; rfl) q)
  | bad => rw [e] at q; exact q.elim
  | ok ds st1 =>
    rw [e] at q
    simp only [Out.bind_ok] at q
    split at q
    · rename_i o ds' st' hz
      split at hz
      · cases hz
        exact (mi_enumL hg hm ha hs).run pins s σ H R I (toL (.ok _ _) (by unfold iEnumL; rw [e]; rfl) q)
      · cases hz
        exact (mi_enumT hg hm ha hs).run pins s σ H R I (toT (.ok _ _) (by unfold iEnumT; rw [e]; rfl) q)
      · cases hz
    · rename_i hz
      split at hz <;> cases hz
    · exact q.elim
end
end DL

/-! DLS: exceptions of the module's own classes. -/
namespace DL
open PySem L2 PySem.Spec PyProof.Rows
/-- what an own class over the parent class with one attribute keeps behind its making -/
def spIni (K : PySem.W.Frag) (C : Addr) (f : Str) : Sp := fun vs H Q _ => ∃ (a : Addr) (y : V), vs = [.ref a, y] ∧ OexC K C ∧ PySem.W.findIn K (.ref C) f = some none ∧ H a = some (exo a C none) ∧
  ∀ dx, H dx = none → dx ≠ a → Q .non (upd (upd H dx (exd dx [(f, y)])) a (exo a C (some dx)))
/-- Parent.__init__(self, ..): the built-in one -/
theorem pe_parini {X : Cx} {e : Expr} {es : List Expr} {ta : TA} {p1 p2 pos : Pos} {x : Str} {C : Addr} {mc : Value} {pl : Sem Bool} (hg : Gl X x) (hm : X.mg x = some (.ref C))
    (g1 : PySem.W.specialIn X.K (.ref C) "__getattribute__" = some (some (.builtin "type.__getattribute__"))) (g2 : PySem.W.readsIn X.K C mc = true) (g3 : PySem.W.findCls X.K (.ref C) mc "__init__" = some (.val (.builtin "ValueError.__init__"))) (ha : PA X (e :: es) ta)
    (hd : (x == ("__debug__" : Str)) = false := by decide)
    (hc : eval (.Call (.Attribute (.Name x p1) "__init__" p2) (e :: es) [] pos) X.env = (do
      let ov ← eval (.Name x p1) X.env
      standAt p2.atName
      let (f, first) ← holding [ov] (getMethod ov "__init__" pl)
      callWith pos f first (backTo pos (starEach (e :: es) X.env)) (backToKw pos (keywordEach [] X.env))) := by rfl)
    (he : starEach (e :: es) X.env = (false, eval e X.env) :: starEach es X.env := by rfl) (hpl : (backTo pos (starEach es X.env)).any (·.1) = false := by rfl) :
    PE X (.Call (.Attribute (.Name x p1) "__init__" p2) (e :: es) [] pos) (tVeI X.K ta) := by
  refine ⟨fun pins s σ H Q I q => ?_⟩
  refine PySem.W.methodCall_KW (ld_glob I hg hm ?_ hd) hc
  refine PySem.W.method_cls I.kIn g1 (PySem.W.cls_value I.kIn g2 g3 (by decide +kernel) ?_)
  show wpAny _ _ (callWith pos (Value.builtin "ValueError.__init__") [] (backTo pos (starEach (e :: es) X.env)) []) _ _ _
  refine PyProof.Rows.callWith_method1 (thn (ha.run pos pins _ σ H _ (I.tok _) q) fun us s1 w => ?_) he hpl
  obtain ⟨vs, H1, I1, r1, a, D, ws, ev, hl, T, ea, q1⟩ := w
  subst ev
  obtain _ | ⟨ra, rr⟩ := r1
  cases ra
  refine oinit_ok T I1 ea ?_ fun s' J => ⟨.non, H1, J, rfl, q1⟩
  have := Paired.length rr
  have : sizeLine = 16777216 := rfl
  omega
section
variable {J : Jx} {a b c e : Expr} {fa fb fc : EF} {pos : Pos}
/-- what the tables say of an exception's class -/
structure EC (T : Tab) (c : String) (x : Str) where
  C : Addr
  fI : Addr
  fd : FuncData
  k : Nat
  f : Str
  p1 : Str
  p2 : Str
  cls : T.cls c = some C
  att : T.att c = some f
  oex : OexC T.K C
  hno : PySem.W.findIn T.K (.ref C) f = some none
  ini : PySem.W.findIn T.K (.ref C) "__init__" = some (some (.ref fI))
  ty : PySem.W.typeIn T.K (.ref fI) = some (.type "function")
  ok : FnOk T.P T.w T.K T.mg T.base (L2.CX T.P T.w) k fI fd [p1, p2] (spIni T.K C f)
  bd : Binds T.K fd [p1, p2] []
  mg : T.mg x = some (.ref C)
  xf : XfC T.K C
theorem exc_heap {H : Hp} {a dx : Addr} {u v o : HO} (ha : H a = none) (hd : H dx = none) (n : dx ≠ a) : upd (del (upd (upd (upd H a u) dx v) a o) a) dx w = upd H dx w := by
  funext b
  unfold upd del
  by_cases e1 : b = dx
  · simp [e1]
  · by_cases e2 : b = a
    · subst e2; simp [e1, ha]
    · simp [e1, e2]
/-- raise C(e) -/
theorem ms_raise {c : String} {x : Str} {p : Pos} {e : Expr} (B : EC J.f.T c x) (he : ME J e fa) (hc : J.calm = true) (hk : B.k + 1 ≤ J.lev) (hg : Gl J.X x) (hdb : (x == ("__debug__" : Str)) = false := by decide)
    (hs : starEach [e] J.X.env = (false, eval e J.X.env) :: starEach [] J.X.env := by rfl) : MS J (.Raise (some (.Call (.Name x p) [e] [] pos)) none pos2) (sRaise c fa) := by
  have pk := pmk_oex (X := J.X) (x := x) (p := p) (pos := pos) (e := e) (es := []) B.oex B.ini B.ty B.ok ((J.room hc).mono hk) B.bd .nil passL hg B.mg (pa_cons he pa_nil hs) hdb hs rfl
  refine PS.up (ps_raise hc J.tk pk) fun D σ H q => ?_
  obtain ⟨W, ρ, st, r, q⟩ := q
  refine ⟨W, ρ, st, r, ?_⟩
  unfold sRaise eTake at q
  cases e1 : fa ρ st with
  | exc c v st2 => rw [e1] at q; first | exact q | exact XO.per s1.toPer q | exact XO.per (s1.trans s2).toPer q | exact XO.per ((s1.trans s2).trans s3).toPer q
  | bad => rw [e1] at q; exact q
  | ok z st1 =>
    rw [e1] at q
    simp only [Out.bind_ok] at q
    cases e2 : dOf z with
    | none => rw [e2] at q; exact q.elim
    | some d =>
      rw [e2] at q
      simp only [Out.of_some, Out.bindS_ok] at q
      intro W1 H1 v1 r1 s1 h1
      have hd := h1.dat e2
      refine ⟨by show 1 ≤ 1000; decide, fun a ha => ⟨a, v1, rfl, B.oex, B.hno, upd_same, fun dx hdx ne => ⟨rfl, dx, [(B.f, v1)], upd_same, ?_, ?_, ?_⟩⟩⟩
      · rw [upd_ne ne, upd_same]
      · rw [upd_ne ne] at hdx; exact hdx
      · have hdx' : H1 dx = none := by rw [upd_ne ne] at hdx; exact hdx
        rw [exc_heap ha hdx' ne]
        have s2 := Step.laid r1.wok hdx' (.xd [(B.f, v1)])
        have w2 := r1.wok.laid hdx' (.xd [(B.f, v1)])
        refine ⟨_, ρ, st1, c, d, r1.step s2 w2, ⟨B.C, B.cls, rfl, ?_⟩, q _ _ (s1.trans s2).toPer⟩
        rw [B.att]
        exact ⟨dx, v1, rfl, .inl rfl, upd_same, Dat.per s2.toPer _ _ hd⟩
/-- an except suite -/
def Jx.suite (J : Jx) (a : Addr) (oe : PySem.Obj) (cls : Value) (d : Option Addr) (pn : List (Addr × PySem.Obj)) : Jx where
  f := { J.f with hnd := some (a, cls, d) }
  A := J.A.mark (some (.ref a))
  N := J.N
  s_0 := J.s_0
  H_0 := J.H_0
  env := J.env
  outer := J.outer
  stack := J.stack
  ex := J.ex
  fn := J.fn
  calm := false
  pn := (a, oe) :: pn
  xe := fun _ _ => False
  EW := fun _ _ _ _ _ _ => False
  lev := 0
  room := fun h => nomatch h
  gd := J.gd
  nd := J.nd
  tk := fun u s' ⟨_, _, _, _, _, _, _, _, _, _, _, _, _, _, _, _, h⟩ => by
    obtain ⟨_, _, _, _, _, _, _, h⟩ := h
    exact h
  po := PassesOwn.never
/-- a try's body -/
def Jx.tr (J : Jx) (pn : List (Addr × PySem.Obj)) (xe : Value → Shared → Prop) (EW : XW) (tk : Takes (J.X.tr pn xe) (wD J.f EW)) (po : PassesOwn (model J.f.T.P J.f.T.w) J.A J.env xe) : Jx where
  f := J.f
  A := J.A
  N := J.N
  s_0 := J.s_0
  H_0 := J.H_0
  env := J.env
  outer := J.outer
  stack := J.stack
  ex := J.ex
  fn := J.fn
  calm := J.calm
  pn := pn
  xe := xe
  EW := EW
  lev := J.lev
  room := J.room
  gd := J.gd
  nd := J.nd
  tk := tk
  po := po
inductive HdD (J : Jx) (sub : String → String → Bool) : List ExceptHandler → List (String × Nat × SF) → Prop
  | nil : HdD J sub [] []
  | cons {x n : Str} {Ck : Addr} {kn : String} {i : Nat} {b₀ : Stmt} {suite : List Stmt} {np pos' : Pos} {g : SF} {hds : List ExceptHandler} {l : List (String × Nat × SF)} (hg : Gl J.X x) (hdb : (x == ("__debug__" : Str)) = false) (hm : J.f.T.mg x = some (.ref Ck))
      (hk : ∀ c C, J.f.T.cls c = some C → PySem.W.exmOne J.f.T.K (.ref C) (.ref Ck) = some (sub c kn)) (hi : J.X.N[i]? = some n) (hln : J.X.env.kindOf n = some .local)
      (hsu : ∀ (a : Addr) (oe : PySem.Obj) (cls : Value) (d : Option Addr) (pn : List (Addr × PySem.Obj)), Zc cls d oe → (∃ vs, oe.data = .fields vs) → MSs (J.suite a oe cls d pn) (b₀ :: suite) g) (r : HdD J sub hds l) :
      HdD J sub (.ExceptHandler (some (.Name x np)) (some n) (b₀ :: suite) pos' :: hds) ((kn, i, g) :: l)
theorem RelS.held {f : Fm} {W : Wd} {H : Hp} {σ : L2.St} {ρ : Env} {st : Store} (r : RelS f [] W H σ ρ st) (h0 : f.hnd = none) (hn : Hnd) : RelS { f with hnd := hn } [] W H σ ρ st := by
  refine ⟨r.w0, r.wok, r.since, r.len, ?_⟩
  obtain ⟨F, O, hX, h⟩ := r.own
  refine ⟨F, O, hX, fun i s e => ?_⟩
  obtain ⟨v, h1, h2⟩ := h i s e
  refine ⟨v, h1, ?_⟩
  cases s with
  | exn c x =>
    obtain ⟨_, _, _, _, _, z, _⟩ := h2
    rw [h0] at z
    cases z
  | sh d => exact h2
  | o1 xs => exact h2
  | o2 xss => exact h2
theorem RelS.setE {f : Fm} {W : Wd} {H : Hp} {σ : L2.St} {ρ : Env} {st : Store} (r : RelS f [] W H σ ρ st) {i : Nat} {c : String} {x : D} {v : V} (hd : SlR f.T W H f.hnd (.exn c x) v []) : RelS f [] W H (σ.set i (some v)) (ρ.set i (some (.exn c x))) st :=
  r.setX (s := .exn c x) hd
theorem noX_len (ρ : Env) : (noX ρ).length = ρ.length := by simp [noX]
theorem noX_get {ρ : Env} {i : Nat} {s : Sl} (h : (noX ρ)[i]? = some (some s)) : ρ[i]? = some (some s) ∧ ∀ c x, s ≠ .exn c x := by
  unfold noX at h
  rw [List.getElem?_map] at h
  cases e : ρ[i]? with
  | none => rw [e] at h; cases h
  | some o =>
    rw [e] at h
    cases o with
    | none => simp at h
    | some t => cases t <;> simp at h <;> subst h <;> exact ⟨rfl, fun c x => by intro z; cases z⟩
theorem RelS.let {f : Fm} {hn : Hnd} {W : Wd} {H : Hp} {σ : L2.St} {ρ : Env} {st : Store} (r : RelS { f with hnd := hn } [] W H σ ρ st) (i : Nat) : RelS f [] W H (σ.set i none) (noX (ρ.set i none)) st := by
  refine ⟨r.w0, r.wok, r.since, by rw [noX_len, List.length_set, List.length_set]; exact r.len, ?_⟩
  obtain ⟨F, O, hX, h⟩ := r.own
  refine ⟨F, O, by rw [noX_len, List.length_set]; exact hX, fun j s e => ?_⟩
  obtain ⟨e1, e2⟩ := noX_get e
  by_cases z : j = i
  · subst z
    rw [List.getElem?_set] at e1
    simp at e1
  · rw [List.getElem?_set_ne (fun q => z q.symm)] at e1
    obtain ⟨v, h1, h2⟩ := h j s e1
    refine ⟨v, by rw [List.getElem?_set_ne (fun q => z q.symm)]; exact h1, ?_⟩
    cases s with
    | exn c x => exact absurd rfl (e2 c x)
    | sh d => exact h2
    | o1 xs => exact h2
    | o2 xss => exact h2
end
end DL

/-! DLT: try with several clauses that bind a name. -/
namespace DL
open PySem L2 PySem.Spec PyProof.Rows
/-- ends behind a suite whose name goes -/
def goneD (i : Nat) (D : Ends) : Ends := { nx := fun σ' H' => D.nx (σ'.set i none) H', rt := D.rt, bk := fun σ' H' => D.bk (σ'.set i none) H', ct := fun σ' H' => D.ct (σ'.set i none) H' }
abbrev TSx := Addr → Value → Option Addr → TS
/-- the clauses' wishes -/
def wAsM (K : PySem.W.Frag) (Wout : WX) (D : Ends) : List (Value × Nat × TSx) → WX
  | [] => Wout
  | (c, i, ts) :: r => fun cls d σ H => ∃ b, PySem.W.exmOne K cls c = some b ∧ (b = true → ∀ a, H a = none → ts a cls d (goneD i D) (σ.set i (some (.ref a))) H) ∧ (b = false → wAsM K Wout D r cls d σ H)
inductive HdA (X : Cx) : List ExceptHandler → List (Value × Nat × TSx) → Prop
  | nil : HdA X [] []
  | cons {x n : Str} {c : Value} {i : Nat} {ts : TSx} {b₀ : Stmt} {suite : List Stmt} {np pos' : Pos} {hds : List ExceptHandler} {l : List (Value × Nat × TSx)} (hc : Names X x c) (hi : X.N[i]? = some n) (hln : X.env.kindOf n = some .local)
      (hsu : ∀ (a : Addr) (oe : PySem.Obj) (cls : Value) (d : Option Addr) (pn : List (Addr × PySem.Obj)), Zc cls d oe → (∃ vs, oe.data = .fields vs) → PSs (X.suite a ((a, oe) :: pn)) (b₀ :: suite) (ts a cls d)) (r : HdA X hds l) :
      HdA X (.ExceptHandler (some (.Name x np)) (some n) (b₀ :: suite) pos' :: hds) ((c, i, ts) :: l)
section
variable {X : Cx} {body : List Stmt} {h₀ : ExceptHandler} {hds : List ExceptHandler} {l : List (Value × Nat × TSx)} {pos : Pos} {tb : WX → TS} {Wout : WX}
theorem ps_try_asM (hs : X.stack = X.env :: X.outer) (hf : X.env.frame = some X.env.locals) (hN : X.N.Nodup) (tk : Takes X Wout)
    (hb : ∀ (W : WX) (pn : List (Addr × PySem.Obj)) (xe : Value → Shared → Prop), Takes (X.tr pn xe) W → PassesOwn (model X.prog X.w) X.A X.env xe → PSs (X.tr pn xe) body (tb W))
    (hh : HdA X (h₀ :: hds) l) : PS X (.Try body (h₀ :: hds) [] [] pos) (fun D σ H => tb (wAsM X.K Wout D l) D σ H) := by
  refine ⟨fun pins s σ H D I h => ?_⟩
  have ok := I.ok
  have hfr : X.A.frames = some (X.env :: X.outer) := by rw [ok.frames, hs]
  refine wpAny_Try_except ?_
  have tkb : Takes (X.tr (X.pn ++ pins) (fun e s₁ => wpAny (model X.prog X.w) X.A (noteFrame e X.env) (fun _ s₂ => wpAny (model X.prog X.w) X.A (setFlight e none) (fun _ s₃ =>
    wpAny (model X.prog X.w) X.A (handleBy e X.env (h₀ :: hds)) (SP X pins D) X.xe s₃) X.xe s₂) X.xe s₁)) (wAsM X.K Wout D l) := by
    intro u s' xx
    obtain ⟨a, B, sI, pins', σ', H', cls, d, rfl, J', nb, up, sky, na, os, ag, w⟩ := xx
    have J : Inv X pins σ' H' sI := J'.ofTry ok
    have sky' : Sky B (X.env :: X.outer) a (Zc cls d) X.env.locals s'.heap := by rw [← hs]; exact sky
    show wpAny (model X.prog X.w) X.A (noteFrame (.ref a) X.env) _ _ _
    refine Sky.land Zc.steady hfr hf sky' fun h3 fl3 up3 => ?_
    have J3 : Inv X pins σ' H' { s' with heap := h3 } := J.landed nb fl3.1 (up.trans up3) os ag
    obtain ⟨oe3, vs3, he3, hz3, hd3⟩ := fl3.there
    have nfr : a ∉ frs (X.env :: X.outer) := fun hm => by
      obtain ⟨_, o', e', hnf⟩ := fl3.2.2.1.mem hm
      rw [he3] at e'; cases e'
      exact hnf _ hd3
    have nL : a ≠ X.env.locals := fun z => nfr (List.mem_filterMap.mpr ⟨X.env, List.mem_cons_self, by rw [hf, z]⟩)
    have nF : a ∉ X.fs := fun hm => by
      obtain ⟨e, he, q⟩ := List.mem_filterMap.mp hm
      exact nfr (List.mem_filterMap.mpr ⟨e, List.mem_cons_of_mem _ he, q⟩)
    have S3 := J3.suite he3 hd3 na nL nF
    have go : ∀ {hds' : List ExceptHandler} {l' : List (Value × Nat × TSx)}, HdA X hds' l' → wAsM X.K Wout D l' cls d σ' H' →
        wpAny (model X.prog X.w) X.A (handleBy (.ref a) X.env hds') (SP X pins D) X.xe { s' with heap := h3 } := by
      intro hds' l' hk
      induction hk with
      | nil =>
        intro w
        refine wpAny_handleBy_nil ?_
        obtain ⟨k1, k2, k3, oe, vs, T, oT, ts', he, hz, hd, h1, hr⟩ := id fl3
        unfold PySem.passOn
        refine wpAny_bind (wpAny_field he hd h1 ?_)
        rw [if_neg (show ¬ ((Value.ref T == Value.none) = true) from by simp)]
        have fin : wpAny (model X.prog X.w) X.A (setFlight (.ref a) X.env.frame) (fun _ s4 => wpAny (model X.prog X.w) X.A (throw (.ref a) : Sem Flow) (SP X pins D) X.xe s4) X.xe { s' with heap := h3 } := by
          rw [hf]
          refine HandSPX.setFlight_upZ fl3 fun h4 hh4 up4 => wpAny_throw (tk _ _ ?_)
          exact ⟨a, B, sI, pins, σ', H', cls, d, rfl, J, nb, (up.trans up3).trans up4, .inr (.inr (by rw [hs]; exact hh4)), na, os, ag, w⟩
        first
          | exact wpAny_bind (wpAny_pure (wpAny_bind fin))
          | exact wpAny_bind fin
      | @cons x n c i ts b₀ suite np pos' hds2 l2 hc hi hln hsu r ih =>
        intro w
        obtain ⟨b, hb1, hyes, hno⟩ := w
        have hloc : Loc X.env.scope n := .inl hln
        refine wpAny_handleBy_cons (codeAny_handlers_test ?_) (by intro q; cases q)
        have LT : PySem.W.Looks (model X.prog X.w) h3 (typeOf (.ref a)) cls := fun A Q E s k q => wpAny_typeOf_ref (k _ _ he3) (by rw [hz3.1]; exact q)
        have LM := PySem.W.exm_one (M := model X.prog X.w) (J3.kIn) LT hb1
        have test : ∀ {Q : Value → Shared → Prop} {E : Value → Shared → Prop}, Q c { s' with heap := h3 } → wpAny (model X.prog X.w) (X.A.mark (some (.ref a))) (eval (.Name x np) X.env) Q E { s' with heap := h3 } := fun {Q E} q => by
          obtain ⟨hg, hdbg, hm | ⟨hm, hv, hnn⟩⟩ := hc
          · exact ld_glob (X := X.suite a ((a, oe3) :: (X.pn ++ pins))) S3 hg hm q hdbg
          · exact ld_blt (X := X.suite a ((a, oe3) :: (X.pn ++ pins))) S3 hg hm hv q hnn hdbg
        refine test (LM.here ?_)
        cases b with
        | true =>
          refine codeAny_handlers_suite_as ?_
          refine HandSPX.lands_againZ fl3 fun h4 fl4 up4 => ?_
          have J4 : Inv X pins σ' H' { s' with heap := h4 } := J.landed nb fl4.1 ((up.trans up3).trans up4) os ag
          obtain ⟨oe4, vs4, he4, hz4, hd4⟩ := fl4.there
          have S4 := J4.suite he4 hd4 na nL nF
          refine store_ok (X := X.suite a ((a, oe4) :: (X.pn ++ pins))) (v := .ref a) S4 hN hi hloc rfl (fun s5 S5 => ?_) (.inr hln)
          refine wpAny_mono ((hsu a oe4 cls d (X.pn ++ pins) hz4 ⟨_, hd4⟩).run [] s5 _ H' _ S5 (hyes rfl a na)) (fun f s6 hsp => ?_) (fun _ _ z => False.elim z)
          have end_ : ∀ {σ6 : L2.St} {H6 : Hp} {Q : Shared → Prop}, Inv (X.suite a ((a, oe4) :: (X.pn ++ pins))) [] σ6 H6 s6 → (∀ s7, Inv X pins (σ6.set i none) H6 s7 → Q s7) →
              wpAny (model X.prog X.w) X.A (do bindName X.env n .none; unbindBehindTheSuite X.env n pos') (fun _ s7 => Q s7) X.xe s6 := fun {σ6 H6 Q} S6 hq => gone_ok (S6.unsuite ok) hN hi hln hq
          cases f with
          | next =>
            obtain ⟨σ6, H6, S6, q6⟩ := hsp
            exact end_ S6 fun s7 J7 => ⟨_, _, J7, q6⟩
          | brk =>
            obtain ⟨σ6, H6, S6, q6⟩ := hsp
            exact end_ S6 fun s7 J7 => ⟨_, _, J7, q6⟩
          | cont =>
            obtain ⟨σ6, H6, S6, q6⟩ := hsp
            exact end_ S6 fun s7 J7 => ⟨_, _, J7, q6⟩
          | ret u =>
            obtain ⟨v6, σ6, H6, S6, r6, q6⟩ := hsp
            exact end_ S6 fun s7 J7 => ⟨_, _, _, J7, r6, q6⟩
        | false =>
          show wpAny _ X.A (handleBy (.ref a) X.env hds2) _ _ _
          exact ih (hno rfl)
    exact go hh w
  refine wpAny_mono ((hb (wAsM X.K Wout D l) (X.pn ++ pins) _ tkb PassesOwn.looking).run [] s σ H D (I.toTry _) h) (fun f s1 hsp => ?_) (fun e s1 he => he)
  · cases f with
    | next =>
      obtain ⟨σ', H', J', q⟩ := hsp
      exact wpAny_execs_nil ⟨σ', H', J'.ofTry ok, q⟩
    | brk =>
      obtain ⟨σ', H', J', q⟩ := hsp
      exact ⟨σ', H', J'.ofTry ok, q⟩
    | cont =>
      obtain ⟨σ', H', J', q⟩ := hsp
      exact ⟨σ', H', J'.ofTry ok, q⟩
    | ret u =>
      obtain ⟨v, σ', H', J', r, q⟩ := hsp
      exact ⟨v, σ', H', J'.ofTry ok, r, q⟩
end
/-- the reading of a statement under any wish about exceptions -/
def rdSX (f : Fm) (EW : XW) (g : SF) : TS := fun D σ H => ∃ W ρ st, RelS f [] W H σ ρ st ∧ match g ρ st with
  | .next ρ' st' => ∀ W1 H1 σ1, RelS f [] W1 H1 σ1 ρ' st' → Per W H W1 H1 → D.nx σ1 H1
  | .brk ρ' st' => ∀ W1 H1 σ1, RelS f [] W1 H1 σ1 ρ' st' → Per W H W1 H1 → D.bk σ1 H1
  | .cont ρ' st' => ∀ W1 H1 σ1, RelS f [] W1 H1 σ1 ρ' st' → Per W H W1 H1 → D.ct σ1 H1
  | .ret d st' => ∀ W1 H1 v, Step f.W0 f.H0 W1 H1 → WOk f.T.K W1 H1 st' → Dat f.T.K W1 H1 d v → D.rt v H1
  | .exc c v ρ' st' => XO EW W H ρ' st' c v
  | .bad => False
theorem rdSX_of {J : Jx} {g : SF} {D : Ends} {σ : L2.St} {H : Hp} (h : rdSX J.f J.EW g D σ H) : rdS J g D σ H := by
  obtain ⟨W, ρ, st, r, h⟩ := h
  refine ⟨W, ρ, st, r, ?_⟩
  cases e : g ρ st <;> rw [e] at h <;> exact h
/-- the wish of the clauses -/
def EWc (J : Jx) (sub : String → String → Bool) (cl : List (String × Nat × SF)) (D : Ends) : XW := fun W H ρ st c v => match pickC sub c cl with
  | some (i, s) => (∃ σ0, RelS J.f [] W H σ0 ρ st) → FS J W H D (unS i (s (ρ.set i (some (.exn c v))) st))
  | none => XO J.EW W H ρ st c v
section
variable {J : Jx} {pos : Pos} {g : SF} {body : List Stmt} {h₀ : ExceptHandler} {hds : List ExceptHandler} {cl : List (String × Nat × SF)} {sub : String → String → Bool}
def tsC (J : Jx) (g : SF) : TSx := fun a cls d => rdSX { J.f with hnd := some (a, cls, d) } (fun _ _ _ _ _ _ => False) g
theorem hdA_of : ∀ {hds : List ExceptHandler} {cl : List (String × Nat × SF)}, HdD J sub hds cl → J.f.hnd = none →
    ∃ l, HdA J.X hds l ∧ ∀ (En : Ends) (cls : Value) (d : Option Addr) (σ : L2.St) (H : Hp) (W : Wd) (ρ : Env) (st : Store) (c : String) (v : D), RelS J.f [] W H σ ρ st → ExcR J.f.T W H c v cls d → EWc J sub cl En W H ρ st c v → wAsM J.f.T.K (wD J.f J.EW) En l cls d σ H := by
  intro hds cl h h0
  induction h with
  | nil => exact ⟨[], .nil, fun D cls d σ H W ρ st c v r ex e => ⟨W, ρ, st, c, v, r, ex, e W H (Per.refl ..)⟩⟩
  | @cons x n Ck kn i b₀ suite np pos' g hds l hg hdb hm hk hi hln hsu r ih =>
    obtain ⟨l', hA, hW⟩ := ih
    refine ⟨(.ref Ck, i, tsC J g) :: l', .cons ⟨hg, hdb, .inl hm⟩ hi hln (fun a oe cls d pn hz hv => PSs.up (hsu a oe cls d pn hz hv) fun D σ H q => rdSX_of (J := J.suite a oe cls d pn) q) hA, ?_⟩
    intro D cls d σ H W ρ st c v rr ex e
    obtain ⟨C, hC, eC, _⟩ := id ex
    subst eC
    refine ⟨sub c kn, hk c C hC, fun hb a ha => ?_, fun hb => ?_⟩
    · unfold EWc at e
      simp only [pickC, hb, if_true] at e
      have e := e ⟨σ, rr⟩
      have r1 : RelS { J.f with hnd := some (a, Value.ref C, d) } [] W H (σ.set i (some (.ref a))) (ρ.set i (some (.exn c v))) st :=
        (rr.held h0 (some (a, .ref C, d))).setE ⟨rfl, a, .ref C, d, rfl, rfl, ex⟩
      refine ⟨W, _, st, r1, ?_⟩
      cases e2 : g (ρ.set i (some (.exn c v))) st with
      | next ρ2 st2 => rw [e2] at e; exact fun W1 H1 σ1 r2 p => e W1 H1 _ (r2.let i) p
      | brk ρ2 st2 => rw [e2] at e; exact fun W1 H1 σ1 r2 p => e W1 H1 _ (r2.let i) p
      | cont ρ2 st2 => rw [e2] at e; exact fun W1 H1 σ1 r2 p => e W1 H1 _ (r2.let i) p
      | ret d2 st2 => rw [e2] at e; exact e
      | exc c2 v2 ρ2 st2 => rw [e2] at e; exact e.elim
      | bad => rw [e2] at e; exact e.elim
    · refine hW D _ d σ H W ρ st c v rr ex ?_
      unfold EWc at e ⊢
      simp only [pickC, hb] at e
      exact e
theorem ms_try (hs : J.stack = J.env :: J.outer) (hf : J.env.frame = some J.env.locals) (h0 : J.f.hnd = none)
    (hb : ∀ pn xe EW tk po, MSs (J.tr pn xe EW tk po) body g) (hh : HdD J sub (h₀ :: hds) cl) : MS J (.Try body (h₀ :: hds) [] [] pos) (sTry sub g cl) := by
  obtain ⟨l, hA, hW⟩ := hdA_of hh h0
  have base := ps_try_asM (X := J.X) (pos := pos) (body := body) (tb := fun W D σ H => ∃ EW : XW, (∀ cls d σ H, wD J.f EW cls d σ H → W cls d σ H) ∧ rdSX J.f EW g D σ H) hs hf J.nd J.tk (fun W pn xe tk po => ⟨fun pins s σ H D I h => by
    obtain ⟨EW, hE, h⟩ := h
    exact (hb pn xe EW (tk.imp hE) po).run pins s σ H D I (rdSX_of (J := J.tr pn xe EW (tk.imp hE) po) h)⟩) hA
  refine PS.up base fun D σ H q => ?_
  obtain ⟨W, ρ, st, r, q⟩ := q
  refine ⟨EWc J sub cl D, fun cls d σ1 H1 w => ?_, W, ρ, st, r, ?_⟩
  · obtain ⟨W1, ρ1, st1, c, v, r1, ex, e⟩ := w
    exact hW D cls d σ1 H1 W1 ρ1 st1 c v r1 ex e
  · unfold sTry at q
    cases e : g ρ st with
    | next ρ2 st2 => rw [e] at q; exact q
    | brk ρ2 st2 => rw [e] at q; exact q
    | cont ρ2 st2 => rw [e] at q; exact q
    | ret d2 st2 => rw [e] at q; exact q
    | bad => rw [e] at q; exact q
    | exc c v ρ2 st2 =>
      rw [e] at q
      dsimp only at q
      intro W1 H1 p
      unfold EWc
      cases e2 : pickC sub c cl with
      | none => rw [e2] at q; exact XO.per p q
      | some is =>
        obtain ⟨i, s⟩ := is
        rw [e2] at q
        exact fun _ => FS.per p q
end
end DL

/-! DLU: what a suite does with the exception it holds; rows of small rules. -/
namespace DL
open PySem L2 PySem.Spec PyProof.Rows
def eXf (ok : String → Bool) (i : Nat) : EF := fun ρ st => match ρ[i]? with
  | some (some (.exn c v)) => if ok c then .ok (.d v) st else .bad
  | _ => .bad
def eXis (sub : String → String → Bool) (kn : String) (i : Nat) : EF := fun ρ st => match ρ[i]? with
  | some (some (.exn c _)) => .ok (.d (.bl (sub c kn))) st
  | _ => .bad
section
variable {J : Jx} {a : Addr} {oe : PySem.Obj} {cls : Value} {d : Option Addr} {pn : List (Addr × PySem.Obj)}
theorem me_xf (ok : String → Bool) (i : Nat) {x n : Str} {p pos : Pos} (hz : Zc cls d oe) (hf : ∃ vs, oe.data = .fields vs)
    (hok : ∀ c, ok c = true → ∃ C, J.f.T.cls c = some C ∧ J.f.T.att c = some n ∧ XfC J.f.T.K C ∧ PySem.W.findIn J.f.T.K (.ref C) n = some none)
    (hN : J.X.N[i]? = some x := by rfl) (hv : Vis J.X.env.scope x := by first | exact Or.inl rfl | exact Or.inr (Or.inl rfl) | exact Or.inr (Or.inr rfl)) (hd : (x == ("__debug__" : Str)) = false := by decide) (hcd : (x == ("__classdict__" : Str)) = false := by decide)
    (hb : attributeBase (.Name x p) n J.X.env (eval (.Name x p) J.X.env) = eval (.Name x p) J.X.env := by rfl) :
    ME (J.suite a oe cls d pn) (.Attribute (.Name x p) n pos) (eXf ok i) := by
  refine ⟨fun pins s σ H Q I q => ?_⟩
  obtain ⟨W, ρ, st, r, q⟩ := id q
  unfold eXf at q
  cases e : ρ[i]? with
  | none => rw [e] at q; exact q.elim
  | some o =>
    rw [e] at q
    cases o with
    | none => exact q.elim
    | some sl =>
      cases sl with
      | sh _ => exact q.elim
      | o1 _ => exact q.elim
      | o2 _ => exact q.elim
      | exn c v =>
        dsimp only at q
        by_cases k : ok c = true
        · rw [if_pos k] at q
          obtain ⟨C, hC, hA, xf, hno⟩ := hok c k
          obtain ⟨F, O, hX, S⟩ := r.own
          obtain ⟨vv, hs, hF, e', cls', dd', ev, eh, ex⟩ := S i _ e
          cases eh
          obtain ⟨C', hC', ec, hm⟩ := ex
          rw [show J.f.T.cls c = some C' from hC'] at hC
          cases hC
          rw [show (J.suite a oe cls d pn).f.T.att c = some n from hA] at hm
          obtain ⟨dd, wv, ed, hz', hdd, hdat⟩ := hm
          refine (pe_xf (X := J.X) (pn := pn) xf hno hz hf (pe_var (X := J.X.suite a ((a, oe) :: pn)) hN hv hd hcd) hb).run pins s σ H Q I ?_
          exact ⟨vv, hs, ev, ec, dd, _, wv, ed, hdd, by simp [List.lookup], q W H wv r (Step.refl ..) hdat⟩
        · rw [if_neg k] at q; exact q.elim
theorem me_xis (sub : String → String → Bool) (kn : String) (i : Nat) {x y z : Str} {Ck : Addr} {p p1 p2 pos : Pos} (hz : Zc cls d oe) (hf : ∃ vs, oe.data = .fields vs)
    (hok : ∀ c C, J.f.T.cls c = some C → ExcC J.f.T.K C ∧ PySem.W.kitOne J.f.T.K (.ref C) (.ref Ck) = some (sub c kn))
    (hg : Gl J.X y) (hm : J.f.T.mg y = none) (hv : bootBuiltins y = some (.builtin "isinstance")) (hgz : Gl J.X z) (hmz : J.f.T.mg z = some (.ref Ck))
    (hN : J.X.N[i]? = some x := by rfl) (hvx : Vis J.X.env.scope x := by first | exact Or.inl rfl | exact Or.inr (Or.inl rfl) | exact Or.inr (Or.inr rfl)) (hd : (x == ("__debug__" : Str)) = false := by decide) (hcd : (x == ("__classdict__" : Str)) = false := by decide)
    (hn : y ≠ "__name__" := by decide) (hdb : (y == ("__debug__" : Str)) = false := by decide) (hdb2 : (z == ("__debug__" : Str)) = false := by decide)
    (hs : starEach [.Name x p1, .Name z p2] J.X.env = (false, eval (.Name x p1) J.X.env) :: starEach [.Name z p2] J.X.env := by rfl) (hs2 : starEach [.Name z p2] J.X.env = (false, eval (.Name z p2) J.X.env) :: starEach [] J.X.env := by rfl) (hpl : (backTo pos (starEach [.Name z p2] J.X.env)).any (·.1) = false := by rfl) :
    ME (J.suite a oe cls d pn) (.Call (.Name y p) [.Name x p1, .Name z p2] [] pos) (eXis sub kn i) := by
  refine ⟨fun pins s σ H Q I q => ?_⟩
  obtain ⟨W, ρ, st, r, q⟩ := id q
  unfold eXis at q
  cases e : ρ[i]? with
  | none => rw [e] at q; exact q.elim
  | some o =>
    rw [e] at q
    cases o with
    | none => exact q.elim
    | some sl =>
      cases sl with
      | sh _ => exact q.elim
      | o1 _ => exact q.elim
      | o2 _ => exact q.elim
      | exn c v =>
        dsimp only at q
        obtain ⟨F, O, hX, S⟩ := r.own
        obtain ⟨vv, hs', hF, e', cls', dd', ev, eh, ex⟩ := S i _ e
        cases eh
        obtain ⟨C', hC', ec, hm2⟩ := ex
        subst ec
        obtain ⟨EC', hkit⟩ := hok c C' hC'
        have call : CallR (J.X.suite a ((a, oe) :: pn)) (.builtin "isinstance") (fun xs H Q => (d = none ∨ ∃ dd fs, d = some dd ∧ H dd = some (.xd fs)) ∧ rIsE J.f.T.K C' a xs H Q) := by
          intro pins s σ H xs us Q I r h
          obtain ⟨hdd, c, cv, b, rfl, hcv, e, q⟩ := h
          cases r with
          | cons rx rr =>
            cases rr with
            | cons rt rr =>
              cases rr
              cases rx
              have ec := hcv _ rt
              subst ec
              obtain ⟨hget, _⟩ := I.pin (a, oe) (List.mem_append.mpr (.inl List.mem_cons_self))
              obtain ⟨vs, hv⟩ := hf
              have JI : ∃ od, PySem.W.InstAt s.heap a oe C' od := by
                rcases hdd with hdd | ⟨dd, fs, hdd, hH⟩
                · exact ⟨none, hget, hz.1, by unfold PySem.W.notCls; rw [hv] <;> rfl, by rw [hz.2, hdd]; trivial⟩
                · have hx : ObjOk J.f.T.P J.f.T.w H s.heap dd (.xd fs) := I.hok dd _ hH
                  obtain ⟨mA, hns, hr⟩ := hx
                  obtain ⟨od, ho, hl⟩ := lookIn_ns hns
                  exact ⟨some od, hget, hz.1, by unfold PySem.W.notCls; rw [hv] <;> rfl, by rw [hz.2, hdd]; exact ho⟩
              obtain ⟨od, JI⟩ := JI
              have hcl : (PySem.W.clsIn J.f.T.K C').isSome = true := by
                obtain ⟨cd, hc, _⟩ := PySem.W.any_some EC'.hd
                rw [hc]; rfl
              exact PySem.W.kia_one (PySem.W.kitx_exc hcl EC'.hg EC'.hk EC'.hs EC'.ha EC'.hn EC'.ht EC'.hm) I.kIn JI e (fun z => nomatch z) fun tk => ⟨.bl b, H, I.kept (t' := tk) fun _ _ z => z, rfl, q⟩
        refine (pe_callB (X := J.X.suite a ((a, oe) :: pn)) call hg hm hv (pa_cons (pe_var hN hvx hd hcd) (pa_cons (pe_glob (v := .ref Ck) hgz hmz rfl hdb2) pa_nil hs2) hs) hn hdb hs hpl).run pins s σ H Q I ?_
        refine ⟨vv, hs', ?_⟩
        refine ⟨?_, .ref Ck, .ref Ck, sub c kn, by rw [ev], fun u hu => hu, hkit, q W H _ r (Step.refl ..) rfl⟩
        cases ea : (J.suite a oe (Value.ref C') d pn).f.T.att c with
        | none => rw [ea] at hm2; exact .inl hm2.2
        | some f =>
          rw [ea] at hm2
          obtain ⟨dd, wv, ed, _, hdd, _⟩ := hm2
          exact .inr ⟨dd, _, ed, hdd⟩
end
end DL

/-! DLW: the law is called. -/
namespace DL
open PySem L2 PySem.Spec PyProof.Rows
theorem scr_dat {K : PySem.W.Frag} {H : Hp} {a : Addr} {ns : List Int} (hO : Only H) (hS : SqL K H a (ns.map V.int)) : Dat K ⟨fun b => H b ≠ none, []⟩ H (.scr ns) (.ref a) := by
  refine ⟨a, rfl, ?_⟩
  rcases hS with hS | hS
  · rcases hO a with z | ⟨o, xs, z⟩
    · rcases hS with hS | ⟨o, hS⟩ <;> rw [z] at hS <;> cases hS
    · rcases hS with hS | ⟨o', hS⟩
      · rw [z] at hS; cases hS
      · exact .inl ⟨by show H a ≠ none; rw [z]; simp, o', hS⟩
  · exact .inr hS
theorem scr_wok {K : PySem.W.Frag} {H : Hp} : WOk K ⟨fun b => H b ≠ none, []⟩ H [] :=
  ⟨rfl, List.nodup_nil, fun _ h => by simp at h, fun i a ds h => by simp at h, fun _ h => h⟩
/-- the law's call, its promise kept around the one call -/
theorem law_run {P : Program} {w : World} {K : PySem.W.Frag} {mg bt : Str → Option Value} {cls : String → Option Addr} {att : String → Option Str} {k : Nat} {fa a : Addr} {fd : FuncData} {x : Str} {M : FM} {s₁ : Shared} {vs : List Value} {ns : List Int}
    (inK : K.In s₁.heap) (nsG : s₁.heap.Ns mainGlobals mg) (nsB : s₁.heap.Ns builtinsNs bt) (isB : ∀ y : Str, y ≠ "__name__" → bt y = bootBuiltins y) (nolim : s₁.heap.NoLimit) (nogen : s₁.gens = #[])
    (obj : s₁.heap.get? a = some { cls := .type "list", data := .seq vs.toArray }) (isI : IntsAre vs ns) (few : ns.length ≤ sizeLine) (room : Room k callerA)
    (F : ∀ base : Heap, K.In base → base.Ns mainGlobals mg → FnG ⟨P, w, K, mg, base, cls, att⟩ k fa fd [x] (spD ⟨P, w, K, mg, base, cls, att⟩ 1 M)) (bind1 : ∀ (s : Shared) (u : Value), BindsTo s fd ⟨[u], []⟩ [(x, u)])
    (law : ∃ st, M [.scr ns] [] = .ok (.bl true) st) :
    codeAny (model P w) callerA (.call (.ref fa) ⟨[.ref a], []⟩) (fun r s' => r = .ok (.ret (.bool true)) ∧ OldK s₁.heap s'.heap ∧ s'.os = s₁.os ∧ AllBare s'.gens) s₁ := by
  have valsI := vals_ints isI
  have lens := isI.length
  -- H: at most the script is tracked
  have main : ∀ H : Hp, Only H → SqL K H a (ns.map V.int) → HOk P w H s₁.heap → (∀ b, H b ≠ none → b = a) → (H a ≠ none → K.lookup a = none) →
      codeAny (model P w) callerA (.call (.ref fa) ⟨[.ref a], []⟩) (fun r s' => r = .ok (.ret (.bool true)) ∧ OldK s₁.heap s'.heap ∧ s'.os = s₁.os ∧ AllBare s'.gens) s₁ := by
    intro H only sq ok here notK
    have untr : ∀ {b : Addr}, b ≠ a → H b = none := fun {b} n => Classical.byContradiction fun z => n (here b z)
    have dictFree : ∀ {b : Addr} {o : PySem.Obj} {es : Array DictEntry} {ep : Nat}, s₁.heap.get? b = some o → o.data = .dict es ep → H b = none := by
      intro b o es ep e1 e2
      by_cases eb : b = a
      · subst eb
        rw [obj] at e1
        cases e1
        cases (show Data.seq vs.toArray _ = Data.dict es ep from e2)
      · exact untr eb
    have keepNs : ∀ {b : Addr} {m : Str → Option Value}, s₁.heap.Ns b m → (hidT s₁.heap H).Ns b m := by
      rintro b m ⟨o, es, ep, e1, e2, e3⟩
      exact ⟨o, es, ep, hidT_get e1 (dictFree e1 e2), e2, e3⟩
    have inK2 : K.In (hidT s₁.heap H) := by
      intro b o e
      refine hidT_get (inK b o e) ?_
      by_cases eb : b = a
      · subst eb
        refine Classical.byContradiction fun z => ?_
        rw [notK z] at e
        cases e
      · exact untr eb
    obtain ⟨mc, lim1, lim2⟩ := nolim
    have hMod : Mod K mg (hidT s₁.heap H) := ⟨inK2, keepNs nsG, ⟨bt, keepNs nsB, isB⟩, mc, keepNs lim1, lim2⟩
    have env0 : Env0 P w K mg (hidT s₁.heap H) callerA [] s₁ H := ⟨rfl, hMod, fun b o e => of_hidT e, Nat.le_of_eq (hidT_size _ _), trivial, fun b hb => absurd (show b ∈ ([] : List Addr) from hb) (by simp), ok, .of_eq nogen⟩
    have wish : spD ⟨P, w, K, mg, hidT s₁.heap H, cls, att⟩ 1 M [.ref a] H (fun v _ => v = .bl true) (fun _ _ _ => False) := by
      refine ⟨rfl, _, [], [.scr ns], scr_wok, ⟨_, _, rfl, scr_dat only sq, rfl⟩, ?_⟩
      obtain ⟨st, e⟩ := law
      rw [e]
      exact fun _ _ v _ _ h => h
    have run := (F _ inK2 (keepNs nsG)).run callerA [] s₁ H ⟨[.ref a], []⟩ [.ref a] [.ref a] _ _ rfl room env0 (bind1 s₁ (.ref a)) (.cons rfl .nil) wish
    refine codeAny_mono run fun r s' h => ?_
    cases r with
    | error e =>
      obtain ⟨_, _, _, _, _, _, _, _, _, _, _, _, z⟩ := (show L2.CX P w [] H s₁ (fun _ _ _ => False) e s' from h)
      exact z.elim
    | ok fl =>
      cases fl with
      | next => exact h.elim
      | brk => exact h.elim
      | cont => exact h.elim
      | ret u =>
        obtain ⟨v, H', os, bare, un, ok', rel, q⟩ := h
        obtain rfl : v = .bl true := q
        obtain rfl : u = Value.bool true := rel
        refine ⟨rfl, OldK.of_keep fun b o e => ?_, os, bare⟩
        cases hb : H b with
        | none => exact un.keep b o e hb (by intro z; exact absurd (show b ∈ ([] : List Addr) from z) (by simp)) (by simp)
        | some u =>
          rcases only b with z | ⟨ob, xs, z⟩
          · rw [hb] at z; cases z
          · obtain ⟨g1, _⟩ := ok b _ z
            obtain ⟨g2, _⟩ := ok' b _ (un.frzs b ob _ z)
            rw [e] at g1
            cases g1
            exact g2
  cases hk : K.lookup a with
  | some o =>
    have e := inK a o hk
    rw [obj] at e
    cases e
    exact main (fun _ => none) (fun _ => .inl rfl) (.inr ⟨_, vs.toArray, _, hk, rfl, rfl, rfl, by rw [List.size_toArray, lens]; exact few, by simpa using valsI⟩) (fun b u z => nomatch (show (none : Option HO) = some u from z)) (fun b z => absurd rfl z) (fun z => absurd rfl z)
  | none =>
    let H1 : Hp := upd (fun _ => none) a (.frz { cls := .type "list", data := .seq vs.toArray } (.lst (ns.map V.int)))
    have off : ∀ {b : Addr}, b ≠ a → H1 b = none := fun n => upd_ne n
    have on : H1 a = some (.frz { cls := .type "list", data := .seq vs.toArray } (.lst (ns.map V.int))) := upd_same
    refine main H1 (fun b => ?_) (.inl (.inr ⟨_, on⟩)) (fun b u z => ?_) (fun b z => Classical.byContradiction fun n => z (off n)) fun _ => hk
    · by_cases eb : b = a
      · subst eb; exact .inr ⟨_, _, on⟩
      · exact .inl (off eb)
    · by_cases eb : b = a
      · subst eb
        rw [on] at z
        cases z
        exact ⟨obj, by rw [List.length_map]; exact few, vs, _, valsI, obj⟩
      · rw [off eb] at z; cases z
/-- the goal behind the head -/
theorem walkG {l : PySem.W.OpenLaw} {n k : Nat} {q : Program} {loose : List Str} {XP : (Str → Option Value) → Heap → Prop} {YP : World → Heap → Prop} {d : DefRec} {K : Params → PySem.W.Frag} {x : Str} {M : FM}
    (hn : l.most = some n) (hn2 : n ≤ sizeLine) (hdf : d.params.defaults = []) (hr : Room k callerA) (hY : ∀ (w : World) (h : Heap), YP w h → (K w.params).In h)
    (F : ∀ (w : World) (mg : Str → Option Value) (fa : Addr) (h : Heap), (K w.params).In h → h.Ns mainGlobals mg → mg d.name = some (.ref fa) →
      ∃ (fd : FuncData) (cls : String → Option Addr) (att : String → Option Str), (∀ (s : Shared) (u : Value), BindsTo s fd ⟨[u], []⟩ [(x, u)]) ∧
        ∀ base : Heap, (K w.params).In base → base.Ns mainGlobals mg → FnG ⟨l.prog, w, K w.params, mg, base, cls, att⟩ k fa fd [x] (spD ⟨l.prog, w, K w.params, mg, base, cls, att⟩ 1 M))
    (law : ∀ ns : List Int, ns.length ≤ n → ∃ st, M [.scr ns] [] = .ok (.bl true) st) :
    PySem.W.WalkO q loose XP YP l.row.toRowW d [] (fun f vs => PySem.call f vs) := by
  refine Att.attach_call hn hdf fun w s₀ s₁ mg mb fa o pm cd doc a vs ns G Y ho hd hcd hmg hobj hints hlen hg => ?_
  have inK := hY w _ Y
  obtain ⟨fd, cls, att, bind1, all⟩ := F w mg fa _ inK G.T.g hmg
  exact law_run (cls := cls) (att := att) inK G.T.g G.T.b G.T.builtins G.T.nolimit hg hobj hints (Nat.le_trans hlen hn2) hr all bind1 (law ns hlen)
end DL

/-! DLV: repr of data. -/
namespace DL
open PySem L2 PySem.Spec PyProof.Rows
def mapO {α β : Type} (f : α → Option β) : List α → Option (List β)
  | [] => some []
  | x :: xs => match f x, mapO f xs with
    | some a, some b => some (a :: b)
    | _, _ => none
def keyP : Sum Int Str → PyData
  | .inl i => .int i
  | .inr x => .str x
/-- the whole datum, the store's lists put in -/
def deepD (st : Store) : Nat → D → Option PyData
  | 0, _ => none
  | _ + 1, .non => some .none
  | _ + 1, .bl b => some (.bool b)
  | _ + 1, .int i => some (.int i)
  | _ + 1, .str x => some (.str x)
  | n + 1, .tup xs => (mapO (deepD st n) xs).map .tuple
  | n + 1, .lst xs => (mapO (deepD st n) xs).map .list
  | n + 1, .ref k => (st[k]?).bind fun xs => (mapO (deepD st n) xs).map .list
  | n + 1, .dic ks vs => (mapO (deepD st n) vs).map fun ps => .dict ((ks.map keyP).zip ps)
  | _ + 1, .scr _ => none
mutual
def hasL : PyData → Bool
  | .list _ => true
  | .tuple xs => hasLs xs
  | .dict kvs => hasLk kvs
  | _ => false
def hasLs : List PyData → Bool
  | [] => false
  | x :: xs => hasL x || hasLs xs
def hasLk : List (PyData × PyData) → Bool
  | [] => false
  | (_, v) :: r => hasL v || hasLk r
end
abbrev deepN : Nat := 40
def shownD (p : PyData) : Option Str := if p.showable && decide (p.shown.length ≤ szL) && !(p.hasDict && hasL p) then some p.shown else none
def eRepr (a : EF) : EF := fun ρ st => (a ρ st).bind fun x st1 => match x with
  | .d d => Out.of (((deepD st1 deepN d).bind shownD).map fun t => .d (.str t)) st1
  | _ => .bad
section
variable {X : Cx} {pins : List (Addr × PySem.Obj)} {σ : L2.St} {H : Hp} {s : Shared} {W : Wd} {st : Store}
theorem deep_depth : ∀ (n : Nat) (d : D) (p : PyData), deepD st n d = some p → p.depth ≤ n := by
  intro n
  induction n with
  | zero => intro d p e; simp [deepD] at e
  | succ n ih =>
    have all : ∀ (ds : List D) (ps : List PyData), mapO (deepD st n) ds = some ps → PyData.depthAll ps ≤ n := by
      intro ds
      induction ds with
      | nil => intro ps e; simp only [mapO, Option.some.injEq] at e; subst e; simp [PyData.depthAll]
      | cons d ds ih2 =>
        intro ps e
        simp only [mapO] at e
        split at e
        · rename_i a b h1 h2
          cases e
          have h3 := ih d a h1
          have h4 := ih2 b h2
          simp only [PyData.depthAll]
          omega
        · cases e
    have kvs : ∀ (ks : List (Sum Int Str)) (ps : List PyData), PyData.depthKv ((ks.map keyP).zip ps) ≤ PyData.depthAll ps := by
      intro ks
      induction ks with
      | nil => intro ps; simp [PyData.depthKv]
      | cons k ks ih2 =>
        intro ps
        cases ps with
        | nil => simp [PyData.depthKv]
        | cons p ps =>
          have := ih2 ps
          simp only [List.map_cons, List.zip_cons_cons, PyData.depthKv, PyData.depthAll]
          have hk : (keyP k).depth = 0 := by cases k <;> simp [keyP, PyData.depth]
          omega
    intro d p e
    cases d with
    | non => simp only [deepD, Option.some.injEq] at e; subst e; simp [PyData.depth]
    | bl _ => simp only [deepD, Option.some.injEq] at e; subst e; simp [PyData.depth]
    | int _ => simp only [deepD, Option.some.injEq] at e; subst e; simp [PyData.depth]
    | str _ => simp only [deepD, Option.some.injEq] at e; subst e; simp [PyData.depth]
    | scr _ => simp only [deepD] at e; cases e
    | tup xs =>
      simp only [deepD] at e
      obtain ⟨ps, h1, h2⟩ := Option.map_eq_some_iff.mp e
      subst h2
      have := all _ _ h1
      simp only [PyData.depth]
      omega
    | lst xs =>
      simp only [deepD] at e
      obtain ⟨ps, h1, h2⟩ := Option.map_eq_some_iff.mp e
      subst h2
      have := all _ _ h1
      simp only [PyData.depth]
      omega
    | ref k =>
      simp only [deepD] at e
      obtain ⟨xs, h0, e⟩ := Option.bind_eq_some_iff.mp e
      obtain ⟨ps, h1, h2⟩ := Option.map_eq_some_iff.mp e
      subst h2
      have := all _ _ h1
      simp only [PyData.depth]
      omega
    | dic ks vs =>
      simp only [deepD] at e
      obtain ⟨ps, h1, h2⟩ := Option.map_eq_some_iff.mp e
      subst h2
      have := all _ _ h1
      have := kvs ks ps
      simp only [PyData.depth]
      omega
theorem reads_seq {n : Nat} (ih : ∀ (d : D) (v : V) (p : PyData) (u : Value), Dat X.K W H d v → deepD st n d = some p → RelV v u → ∃ as, Reads s.heap u p as ∧ (hasL p = false → sysModules ∉ as)) :
    ∀ (ds : List D) (vs : List V) (ps : List PyData) (us : List Value), Dats X.K W H ds vs → mapO (deepD st n) ds = some ps → Vals vs us → ∃ as, ReadsAll s.heap us ps as ∧ (hasLs ps = false → sysModules ∉ as) := by
  intro ds
  induction ds with
  | nil =>
    intro vs ps us hd e r
    rw [show vs = [] from hd] at r
    cases r
    simp only [mapO, Option.some.injEq] at e
    subst e
    exact ⟨[], .nil, fun _ => by simp⟩
  | cons d ds ih2 =>
    intro vs ps us hd e r
    obtain ⟨v, vr, rfl, h1, h2⟩ := hd
    cases r with
    | cons r1 r2 =>
      simp only [mapO] at e
      split at e
      · rename_i a b g1 g2
        cases e
        obtain ⟨as, k1, k2⟩ := ih d v a _ h1 g1 r1
        obtain ⟨bs, l1, l2⟩ := ih2 vr b _ h2 g2 r2
        refine ⟨as ++ bs, .cons k1 l1, fun hh => ?_⟩
        simp only [hasLs, Bool.or_eq_false_iff] at hh
        intro m
        rcases List.mem_append.mp m with m | m
        · exact k2 hh.1 m
        · exact l2 hh.2 m
      · cases e
theorem reads_keys {es : List DictEntry} {kvs : List (Key × Value)} (p : Pairs (mixKind X.prog X.w) es kvs) : ReadsAll s.heap (es.map (·.key)) (kvs.map fun q => keyP q.1) [] := by
  induction p with
  | nil => exact .nil
  | @cons e kv es kvs h1 h2 h3 ih =>
    have hk : Reads s.heap e.key (keyP kv.1) [] := by
      rcases keyIs_shape h1 with ⟨i, t, e1, e2⟩ | ⟨x, t, e1, e2⟩
      · rw [e1, e2]; exact .int i t
      · rw [e1, e2]; exact .str x t
    exact .cons hk ih
theorem reads_deep (I : Inv X pins σ H s) (w : WOk X.K W H st) : ∀ (n : Nat) (d : D) (v : V) (p : PyData) (u : Value), Dat X.K W H d v → deepD st n d = some p → RelV v u → ∃ as, Reads s.heap u p as ∧ (hasL p = false → sysModules ∉ as) := by
  intro n
  induction n with
  | zero => intro d v p u _ e; simp [deepD] at e
  | succ n ih =>
    have lists : ∀ (ds : List D) (a : Addr) (vs : List V) (p : PyData) (u : Value), H a = some (.lst vs) → Dats X.K W H ds vs → (mapO (deepD st n) ds).map PyData.list = some p → RelV (.ref a) u → ∃ as, Reads s.heap u p as ∧ (hasL p = false → sysModules ∉ as) := by
      intro ds a vs p u h1 h2 e r
      obtain ⟨ps, e1, e2⟩ := Option.map_eq_some_iff.mp e
      subst e2
      cases (show u = Value.ref a from r)
      obtain ⟨z, its, m, rv, _, ho⟩ := I.lstM h1
      obtain ⟨as, k1, k2⟩ := reads_seq ih ds vs ps its h2 e1 rv
      exact ⟨_, .list ho rfl rfl k1, fun hh => by simp [hasL] at hh⟩
    intro d v p u hd e r
    cases d with
    | non =>
      simp only [deepD, Option.some.injEq] at e
      subst e
      rw [show v = _ from hd] at r
      cases (show u = Value.none from r)
      exact ⟨[], .none, fun _ => by simp⟩
    | bl b =>
      simp only [deepD, Option.some.injEq] at e
      subst e
      rw [show v = _ from hd] at r
      cases (show u = Value.bool b from r)
      exact ⟨[], .bool b, fun _ => by simp⟩
    | int i =>
      simp only [deepD, Option.some.injEq] at e
      subst e
      rw [show v = _ from hd] at r
      obtain ⟨t, q⟩ := (show ∃ t, u = Value.int i t from r)
      subst q
      exact ⟨[], .int i t, fun _ => by simp⟩
    | str x =>
      simp only [deepD, Option.some.injEq] at e
      subst e
      rw [show v = _ from hd] at r
      obtain ⟨t, q⟩ := (show ∃ t, u = Value.str x t from r)
      subst q
      exact ⟨[], .str x t, fun _ => by simp⟩
    | scr _ => simp only [deepD] at e; cases e
    | tup ds =>
      simp only [deepD] at e
      obtain ⟨ps, e1, e2⟩ := Option.map_eq_some_iff.mp e
      subst e2
      obtain ⟨a, vs, rfl, h1, h2⟩ := hd
      cases (show u = Value.ref a from r)
      obtain ⟨its, rv, ht, hz⟩ := I.tuple h1.sq
      obtain ⟨o, ho, hc, m, hdat⟩ := ht
      obtain ⟨as, k1, k2⟩ := reads_seq ih ds vs ps its h2 e1 rv
      exact ⟨as, .tuple ho hc hdat k1, fun hh => k2 (by simpa [hasL] using hh)⟩
    | lst ds =>
      simp only [deepD] at e
      obtain ⟨a, vs, rfl, h1, h2⟩ := hd
      exact lists ds a vs p u h1.2 h2 e r
    | ref k =>
      simp only [deepD] at e
      obtain ⟨xs, h0, e⟩ := Option.bind_eq_some_iff.mp e
      obtain ⟨a, rfl, h1⟩ := hd
      obtain ⟨vs, g1, g2⟩ := w.obj k a xs h1 h0
      exact lists xs a vs p u g1 g2 e r
    | dic ks ds =>
      simp only [deepD] at e
      obtain ⟨ps, e1, e2⟩ := Option.map_eq_some_iff.mp e
      subst e2
      obtain ⟨a, kvs, rfl, hz, h1, h2, h3⟩ := hd
      cases (show u = Value.ref a from r)
      obtain ⟨hl, hne, vs, hkv, o, es, ep, ho, hx, hdat, hko, hpr, hnd⟩ := (show ObjOk X.prog X.w H s.heap a (.dK kvs) from I.hok a _ h1)
      have rvals : Vals (kvs.map (·.2)) (es.toList.map (·.val)) := by
        clear h1 h2 h3 hl ho hdat hko hnd
        revert hpr hkv
        generalize es.toList = l
        intro hkv hpr
        induction hpr generalizing kvs with
        | nil => cases hkv; exact .nil
        | cons _ e2 _ ih3 =>
          cases hkv with
          | cons q1 q2 => exact .cons (by show RelV _ _; dsimp only; rw [e2]; exact q1.2) (ih3 _ q2)
      have kk : (vs.map fun q => keyP q.1) = ks.map keyP := by
        rw [← h2]
        clear h1 h2 h3 hl hpr hnd rvals
        induction hkv with
        | nil => rfl
        | cons q1 _ ih3 => simp only [List.map_cons, ih3, q1.1]
      obtain ⟨as, k1, k2⟩ := reads_seq ih ds (kvs.map (·.2)) ps (es.toList.map (·.val)) h3 e1 rvals
      have kr := reads_keys (s := s) hpr
      rw [kk] at kr
      have len : ∀ {us : List Value} {qs : List PyData} {bs : List Addr}, ReadsAll s.heap us qs bs → us.length = qs.length := by
        intro us
        induction us with
        | nil => intro qs bs h; cases h; rfl
        | cons x us ih4 => intro qs bs h; cases h with
          | cons _ h2 => rw [List.length_cons, List.length_cons, ih4 h2]
      have el : (ks.map keyP).length = ps.length := by
        rw [← len kr, ← len k1, List.length_map, List.length_map]
      have e3 : (((ks.map keyP).zip ps).map (·.1)) = ks.map keyP := List.map_fst_zip (Nat.le_of_eq el)
      have e4 : (((ks.map keyP).zip ps).map (·.2)) = ps := List.map_snd_zip (Nat.le_of_eq el.symm)
      refine ⟨_, .dict (as := []) (bs := as) ho hx.1 hdat (by rw [e3]; exact kr) (by rw [e4]; exact k1), fun hh => ?_⟩
      have hls : hasLs ps = false := by
        simp only [hasL] at hh
        clear e1 k1 k2 e3 e4
        have gen : ∀ (qs ps : List PyData), qs.length = ps.length → hasLk (qs.zip ps) = false → hasLs ps = false := by
          intro qs
          induction qs with
          | nil => intro ps l _; cases ps with
            | nil => rfl
            | cons p ps => simp at l
          | cons q qs ih4 => intro ps l h; cases ps with
            | nil => rfl
            | cons p ps =>
              simp only [List.zip_cons_cons, hasLk, Bool.or_eq_false_iff] at h
              simp only [hasLs, h.1, Bool.false_or]
              exact ih4 ps (by simpa using l) h.2
        exact gen _ _ el hh
      intro m
      rcases List.mem_cons.mp m with m | m
      · rw [← m] at hne
        simp at hne
      · exact k2 hls (by simpa using m)
end
section
variable {J : Jx} {a b c e : Expr} {fa fb fc : EF} {pos : Pos}
theorem call_reprD (hc : J.calm = true) : CallR J.X (.builtin "repr") (fun xs H Q => ∃ W st d v t, xs = [v] ∧ WOk J.f.T.K W H st ∧ Dat J.f.T.K W H d v ∧ (deepD st deepN d).bind shownD = some t ∧ Q (.str t) H) := by
  intro pins s σ H xs us Q I r h
  obtain ⟨W, st, d, v, t, rfl, w, hd, e, q⟩ := h
  obtain ⟨p, e1, e2⟩ := Option.bind_eq_some_iff.mp e
  unfold shownD at e2
  split at e2
  rotate_left
  · cases e2
  rename_i hb
  cases e2
  simp only [Bool.and_eq_true, decide_eq_true_eq, Bool.not_eq_true', Bool.and_eq_false_iff] at hb
  obtain ⟨⟨b1, b2⟩, b3⟩ := hb
  cases r with
  | cons r1 r2 =>
    cases r2
    rename_i u
    obtain ⟨as, k1, k2⟩ := reads_deep (X := J.X) I w deepN d v p u hd e1 r1
    have hsm : p.hasDict = true → sysModules ∉ as := fun hh => k2 (by
      rcases b3 with b3 | b3
      · rw [hh] at b3; cases b3
      · exact b3)
    have dep := deep_depth deepN d p e1
    have un := (J.room hc).un
    have dep2 : p.depth ≤ 40 := dep
    have un2 : J.X.A.units + (p.depth + 1) < cLine := by
      show J.A.units + (p.depth + 1) < cLine
      omega
    clear dep un
    cases k1 with
    | none => exact PySem.P.repr_of_none ⟨.str _, H, I.tok _, ⟨_, rfl⟩, q⟩
    | bool b => exact PySem.P.repr_of_bool ⟨.str _, H, I.tok _, ⟨_, rfl⟩, q⟩
    | int i t =>
      have hz : i.natAbs.log2 < 1920 := by simpa [PyData.showable] using b1
      exact PySem.P.repr_of_int hz ⟨.str _, H, I.tok _, ⟨_, rfl⟩, q⟩
    | str x t => exact PySem.P.repr_of_str ⟨.str _, H, I.tok _, ⟨_, rfl⟩, q⟩ b2
    | list g1 g2 g3 g4 =>
      exact repr_of_reads' (h₀ := s.heap) (.list g1 g2 g3 g4) b1 hsm J.gd un2 (fun _ _ x => x) (fun h' u tk kk => ⟨.str _, H, I.kept kk, ⟨_, rfl⟩, q⟩) b2
    | tuple g1 g2 g3 g4 =>
      exact repr_of_reads' (h₀ := s.heap) (.tuple g1 g2 g3 g4) b1 hsm J.gd un2 (fun _ _ x => x) (fun h' u tk kk => ⟨.str _, H, I.kept kk, ⟨_, rfl⟩, q⟩) b2
    | dict g1 g2 g3 g4 g5 =>
      exact repr_of_reads' (h₀ := s.heap) (.dict g1 g2 g3 g4 g5) b1 hsm J.gd un2 (fun _ _ x => x) (fun h' u tk kk => ⟨.str _, H, I.kept kk, ⟨_, rfl⟩, q⟩) b2
/-- repr(x) -/
theorem me_repr {x : Str} {p : Pos} (hc : J.calm = true) (he : ME J e fa) (hg : Gl J.X x) (hm : J.f.T.mg x = none) (hv : bootBuiltins x = some (.builtin "repr"))
    (hn : x ≠ "__name__" := by decide) (hdb : (x == ("__debug__" : Str)) = false := by decide) (hs : starEach [e] J.X.env = (false, eval e J.X.env) :: starEach [] J.X.env := by rfl) (hpl : (backTo pos (starEach [] J.X.env)).any (·.1) = false := by rfl) :
    ME J (.Call (.Name x p) [e] [] pos) (eRepr fa) := by
  refine PE.up (pe_callB (X := J.X) (call_reprD hc) hg hm hv (pa_cons he pa_nil hs) hn hdb hs hpl) fun σ H Q q => ?_
  obtain ⟨W, ρ, st, r, q⟩ := q
  unfold eRepr at q
  refine rd_bind _ r q fun x st1 W1 H1 v1 r1 s1 h1 h => ?_
  cases x with
  | sl _ => exact h.elim
  | sl2 _ _ => exact h.elim
  | exn _ => exact h.elim
  | d dd =>
    dsimp only at h
    cases e : (deepD st1 deepN dd).bind shownD with
    | none => rw [e] at h; exact h.elim
    | some t =>
      rw [e] at h
      exact ⟨W1, st1, dd, v1, t, rfl, r1.wok, h1, e, h W1 H1 _ r1 s1 rfl⟩
end
end DL

/-! DLX: chains of comparisons, small dicts, turned round, three at once, an exception class's own making. -/
namespace HT
open PySem PySem.Spec PyProof.Rows L2
section
variable {prog : Program} {w : World} {A : Around} {E : Value → Shared → Prop} {s : Shared}
theorem applied_back {sl : Addr} {n : Nat} {vu vl vs : Value} {Q : Int × Int × Nat → Shared → Prop} (hs : s.heap.IsSliceOf sl vl vu vs) (pl : IsPart vl none) (pu : IsPart vu none) (ps : IsPart vs (some (-1)))
    (h : Q ((n : Int) - 1, -1, n) s) : wpAny (model prog w) A (Builtin.Slice.sliceApplied (.ref sl) (pure (n : Int))) Q E s := by
  obtain ⟨os, ho, hc, hd⟩ := id hs
  unfold Builtin.Slice.sliceApplied Builtin.Slice.sliceFields
  refine wpAny_bind (wpAny_bind (wpAny_field ho hd (x := vl) rfl (wpAny_bind (wpAny_field ho hd (x := vu) rfl (wpAny_bind (wpAny_field ho hd (x := vs) rfl (wpAny_pure ?_)))))))
  refine wpAny_bind (slicePart_ ps ?_)
  show wpAny _ _ (if ((-1 : Int) == 0) = true then _ else _) _ _ s
  rw [if_neg (by decide)]
  refine wpAny_bind (slicePart_ pl (wpAny_bind (slicePart_ pu (wpAny_bind (wpAny_pure ?_)))))
  have e1 : Builtin.Slice.sliceAdjust none none (-1) (n : Int) = ((n : Int) - 1, -1) := by
    unfold Builtin.Slice.sliceAdjust
    simp
  have e2 : Builtin.Slice.slicePlaces ((n : Int) - 1) (-1) (-1) = n := by
    unfold Builtin.Slice.slicePlaces
    simp
    try omega
  show wpAny _ _ (match Builtin.Slice.sliceAdjust none none (-1) (n : Int) with | (lo, hi) => pure (lo, (-1 : Int), Builtin.Slice.slicePlaces lo hi (-1))) _ _ s
  rw [e1]
  show wpAny _ _ (pure ((n : Int) - 1, (-1 : Int), Builtin.Slice.slicePlaces ((n : Int) - 1) (-1) (-1))) _ _ s
  rw [e2]
  exact wpAny_pure h
end
end HT
namespace HT
open PySem PySem.Spec PyProof.Rows L2
section
variable {prog : Program} {w : World} {A : Around} {E : Value → Shared → Prop} {s : Shared}
theorem pick_back (xs : Array Value) : ((List.range xs.size).filterMap fun (m : Nat) => xs[(((xs.size : Int) - 1) + (m : Int) * (-1)).toNat]?).toArray = xs.toList.reverse.toArray := by
  have e : (List.range xs.size).filterMap (fun (m : Nat) => xs[(((xs.size : Int) - 1) + (m : Int) * (-1)).toNat]?) = xs.toList.reverse := by
    apply List.ext_getElem?
    intro i
    have gen : ∀ (f : Nat → Option Value) (g : Nat → Value) (l : List Nat), (∀ m ∈ l, f m = some (g m)) → l.filterMap f = l.map g := by
      intro f g l
      induction l with
      | nil => intro _; rfl
      | cons x l ih =>
        intro h
        rw [List.filterMap_cons, h x (List.mem_cons_self ..), List.map_cons]
        rw [ih fun m hm => h m (List.mem_cons_of_mem _ hm)]
    have := gen (fun (m : Nat) => xs[(((xs.size : Int) - 1) + (m : Int) * (-1)).toNat]?) (fun m => xs.toList.reverse.getD m default) (List.range xs.size) (fun m hm => by
      have hm := List.mem_range.mp hm
      have e1 : (((xs.size : Int) - 1) + (m : Int) * (-1)).toNat = xs.size - 1 - m := by omega
      show xs[(((xs.size : Int) - 1) + (m : Int) * (-1)).toNat]? = _
      rw [e1, ← Array.getElem?_toList, List.getD_eq_getElem?_getD, List.getElem?_reverse (by simpa using hm)]
      rw [Array.length_toList]
      rw [List.getElem?_eq_getElem (by rw [Array.length_toList]; omega)]
      rfl)
    rw [this, List.getElem?_map]
    by_cases hi : i < xs.size
    · rw [List.getElem?_range hi]
      simp only [Option.map_some]
      rw [List.getD_eq_getElem?_getD, List.getElem?_eq_getElem (by simpa using hi)]
      rfl
    · rw [List.getElem?_eq_none (by simpa using hi), List.getElem?_eq_none (by simpa using hi)]
      rfl
  rw [e]
theorem getItem_tuple_back {t sl : Addr} {items : Array Value} {vl vu vs : Value} {Q : Value → Shared → Prop} (ht : IsTup s.heap t items) (hs : s.heap.IsSliceOf sl vl vu vs) (pl : IsPart vl none) (pu : IsPart vu none) (ps : IsPart vs (some (-1)))
    (h : Q (.ref s.heap.objs.size) { s with heap := s.heap.push { cls := .type "tuple", data := .seq items.toList.reverse.toArray } }) (hsz : items.size ≤ sizeLine) : wpAny (model prog w) A (getItem (.ref t) (.ref sl)) Q E s := by
  have fits : sizeOk (.seq items.toList.reverse.toArray) := by
    show items.toList.reverse.toArray.size ≤ sizeLine
    rw [List.size_toArray, List.length_reverse, Array.length_toList]
    exact hsz
  obtain ⟨os, ho, hc, hd⟩ := id hs
  have isSl : s.TypeIs (.ref sl) "slice" := ⟨os, ho, hc⟩
  unfold getItem
  try with_reducible refine wpAny_holding ?_
  first | refine wpAny_bind (wpAny_pure ?_) | skip
  refine wpAny_bind (wpAny_sequenceKey ht.typeIs (by decide) ?_)
  refine wpAny_bind (wpAny_callSpecial?_slot (name := Str.ofString "__getitem__") ht.typeIs PyProof.Rows.slot_tuple_getitem (wpAny_call_entry PyProof.Rows.slot_tuple_getitem ht.typeIs entry_tuple_getitem ?_ (args_tuple_getitem _ _)))
  show wpAny _ _ (Builtin.Tuple.tupleItemsOf (.ref t) >>= _) _ _ s
  refine wpAny_bind (tupleItemsOf_ ht (wpAny_bind (wpAny_typeOf isSl ?_)))
  rw [if_pos (by decide)]
  refine wpAny_bind (applied_back hs pl pu ps ?_)
  have no : ¬ ((((items.size : Int) - 1 == 0) && ((-1 : Int) == 1) && (items.size == items.size)) = true) := by
    rw [show ((-1 : Int) == 1) = false from by decide]
    simp
  show wpAny _ _ (if (((items.size : Int) - 1 == 0) && ((-1 : Int) == 1) && (items.size == items.size)) = true then _ else _) _ _ s
  rw [if_neg no, pick_back]
  first
    | exact wpAny_bind (m := Builtin.Tuple.tupleExact _) (wpAny_newObj_type (wpAny_pure ⟨_, rfl, wpAny_pure h⟩) fits)
    | exact wpAny_bind (m := Builtin.Tuple.tupleExact _) (wpAny_newObj_type (wpAny_bind (wpAny_pure (wpAny_pure ⟨_, rfl, wpAny_pure h⟩))) fits)
    | exact wpAny_bind (wpAny_bind (m := Builtin.Tuple.tupleExact _) (wpAny_newObj_type (wpAny_pure (wpAny_pure ⟨_, rfl, wpAny_pure h⟩)) fits))
    | exact wpAny_bind (wpAny_bind (m := Builtin.Tuple.tupleExact _) (wpAny_newObj_type (wpAny_pure ⟨_, rfl, wpAny_pure h⟩) fits))
end
end HT
namespace DL
open PySem L2 PySem.Spec PyProof.Rows
section
variable {X : Cx}
def tRevA (K : PySem.W.Frag) (te : TE) : TE := fun σ H Q => te σ H fun x H1 => ∃ a xs, x = .ref a ∧ ((SqL K H1 a xs ∧ ∀ p, H1 p = none → Q (.ref p) (upd H1 p (.lst xs.reverse))) ∨ (SqT K H1 a xs ∧ ∀ p, H1 p = none → Q (.ref p) (upd H1 p (.tup xs.reverse))))
theorem pe_revA {e : Expr} {te : TE} {k : Nat} {p1 p2 p3 pos : Pos} (he : PE X e te) : PE X (.Subscript e (.Slice none none (some (.UnaryOp .USub (.Constant (.int 1) k p1) p2)) p3) pos) (tRevA X.K te) := by
  refine ⟨fun pins s σ H Q I h => ?_⟩
  refine Subscript_ (thn (he.run pins s σ H _ I h) fun v s1 w => ?_)
  obtain ⟨x, H1, I1, r1, a, xs, ex, q⟩ := w
  subst ex
  cases r1
  have minus : PO X (some (.UnaryOp .USub (.Constant (.int 1) k p1) p2)) (tPart (tUn (rU fun i => .int (-i)) (tC (.int 1)))) := po_some (pe_un un_neg pe_int)
  refine wpAny_Slice (thn (po_none.run pins s1 σ H1 (fun o G => o = none ∧ G = H1) I1 ⟨rfl, rfl⟩) fun vl s2 w => ?_)
  obtain ⟨_, _, I2, pl, rfl, rfl⟩ := w
  refine thn (po_none.run pins s2 σ _ (fun o G => o = none ∧ G = _) I2 ⟨rfl, rfl⟩) fun vu s3 w => ?_
  obtain ⟨_, _, I3, pu, rfl, rfl⟩ := w
  refine thn (minus.run pins s3 σ _ (fun o G => o = some (-1) ∧ G = _) I3 ⟨1, rfl, -1, rfl, rfl, rfl⟩) fun vs s4 w => ?_
  obtain ⟨_, H4, I4, ps, rfl, e4⟩ := w
  subst e4
  have I5 : Inv X pins σ H4 { s4 with heap := s4.heap.push { cls := .type "slice", data := .fields #[vl, vu, vs] } } := I4.kept (t' := s4.toks) fun b ob q => Heap.get?_push_of_some _ q
  show wpAny (model X.prog X.w) X.A (subscriptTail e (.Slice none none (some (.UnaryOp .USub (.Constant (.int 1) k p1) p2)) p3) (.ref a) (.ref s4.heap.objs.size)) (EP X pins σ Q) X.xe { s4 with heap := s4.heap.push { cls := .type "slice", data := .fields #[vl, vu, vs] } }
  rcases q with ⟨hx, q⟩ | ⟨hx, q⟩
  · obtain ⟨its, r, ht, hz⟩ := I5.list hx
    have hlen := r.length
    refine tail_any (ops := [.ref a, .ref s4.heap.objs.size]) ht.isList.typeIs (PySem.slot_list_getitem.lookup) ?_ (by with_unfolding_all rfl)
    refine wpAny_getItem_list_slice ht.isList (Heap.IsSliceOf.new _ vl vu vs) pl pu ps (by decide) ?_ (by rw [List.size_toArray]; omega)
    rw [PySem.W.krv_pick]
    refine ⟨.ref _, _, I5.laid (t' := s4.toks) (o := .lst xs.reverse) (fun b ob q => Heap.get?_push_of_some _ q) (Nat.le_refl _) ?_, rfl, q _ (I5.hok.fresh (Nat.le_refl _))⟩
    exact ⟨by rw [List.length_reverse]; exact hz, _, 0, r.reverse, Heap.get?_push_size _ rfl⟩
  · obtain ⟨its, r, ht, hz⟩ := I5.tuple hx
    have hlen := r.length
    refine tail_any (ops := [.ref a, .ref s4.heap.objs.size]) ht.typeIs (PyProof.Rows.slot_tuple_getitem.lookup) ?_ (by with_unfolding_all rfl)
    refine HT.getItem_tuple_back ht (Heap.IsSliceOf.new _ vl vu vs) pl pu ps ?_ (by rw [List.size_toArray]; omega)
    refine ⟨.ref _, _, I5.laid (t' := s4.toks) (o := .tup xs.reverse) (fun b ob q => Heap.get?_push_of_some _ q) (Nat.le_refl _) ?_, rfl, q _ (I5.hok.fresh (Nat.le_refl _))⟩
    refine ⟨by rw [List.length_reverse]; exact hz, its.reverse, r.reverse, ?_⟩
    exact ⟨_, Heap.get?_push_size _ rfl, rfl, 0, by simp⟩
end
/-- x[::-1] -/
def revA : D → Option D
  | .lst xs => some (.lst xs.reverse)
  | .tup xs => some (.tup xs.reverse)
  | .scr xs => some (.lst (xs.reverse.map .int))
  | _ => none
section
variable {J : Jx} {a b c e : Expr} {fa fb fc : EF} {pos : Pos}
theorem me_rev {k : Nat} {p1 p2 p3 : Pos} (he : ME J e fa) : ME J (.Subscript e (.Slice none none (some (.UnaryOp .USub (.Constant (.int 1) k p1) p2)) p3) pos) (eUn revA fa) := by
  refine PE.up (pe_revA (X := J.X) he) fun σ H Q q => ?_
  obtain ⟨W, ρ, st, r, q⟩ := q
  unfold eUn at q
  refine rd_bind _ r q fun x st1 W1 H1 v1 r1 s1 h1 h => ?_
  cases e1 : view ρ st1 x with
  | none => simp only [e1] at h
  | some dx =>
    simp only [e1] at h
    cases e2 : revA dx with
    | none => simp only [e2, Option.map_none, Out.of_none] at h
    | some d =>
      simp only [e2, Option.map_some, Out.of_some] at h
      have vw := Vw.of r1 h1 e1
      have back : Back J.f.T.K W1 H1 st1 d Q := fun W4 H4 v4 s4 w4 hd => h W4 H4 v4 (r1.step s4 w4) (s1.trans s4) hd
      cases dx with
      | lst ds =>
        cases e2
        obtain ⟨p, vs, f1, f2, f3⟩ := vw
        exact ⟨p, vs, f1, .inl ⟨.of f2, fun l hl => back.lst r1.wok f3.reverse hl⟩⟩
      | tup ds =>
        cases e2
        obtain ⟨p, vs, f1, f2, f3⟩ := vw
        exact ⟨p, vs, f1, .inr ⟨f2.sq, fun l hl => back.tup r1.wok f3.reverse hl⟩⟩
      | scr ns =>
        cases e2
        obtain ⟨p, f1, f2⟩ := vw
        refine ⟨p, _, f1, .inl ⟨f2.sq, fun l hl => ?_⟩⟩
        rw [← List.map_reverse]
        exact back.lst r1.wok (Dats.of_ints _) hl
      | non => cases e2
      | bl _ => cases e2
      | int _ => cases e2
      | str _ => cases e2
      | ref _ => cases e2
      | dic _ _ => cases e2
theorem chain_read {g g' : D → D → Option D} {σ : L2.St} {H : Hp} {Q : VK} (h : rdE J.f J.EW (eChain g g' fa fb fc) σ H Q) :
    tChain (rD2 J.f.T.K g) (rD2 J.f.T.K g') (rdE J.f J.EW fa) (rdE J.f J.EW fb) (rdE J.f J.EW fc) σ H Q := by
  obtain ⟨W, ρ, st, r, h⟩ := h
  unfold eChain at h
  refine rd_bind _ r h fun x st1 W1 H1 v1 r1 s1 h1 h => ?_
  refine ⟨W1, ρ, st1, r1, ?_⟩
  cases e : fb ρ st1 with
  | exc c v st2 => simp only [e, Out.bind_exc] at h; exact XO.per s1.toPer h
  | bad => simp only [e, Out.bind_bad] at h
  | ok y st2 =>
  simp only [e, Out.bind_ok] at h
  intro W2 H2 v2 r2 s2 h2
  cases e1 : view ρ st2 x with
  | none => simp only [e1] at h
  | some dx =>
    cases e2 : view ρ st2 y with
    | none => simp only [e1, e2] at h
    | some dy =>
      simp only [e1, e2] at h
      cases e3 : g dx dy with
      | none => simp only [e3] at h
      | some d =>
        cases d with
        | bl k =>
          cases k with
          | false =>
            simp only [e3] at h
            refine ⟨W2, st2, dx, dy, _, r2.wok, Vw.of r2 (h1.step r1 s2) e1, Vw.of r2 h2 e2, e3, fun W3 H3 v3 s3 w3 hd => ⟨false, hd, ?_⟩⟩
            exact h W3 H3 _ (r2.step s3 w3) ((s1.trans s2).trans s3) rfl
          | true =>
            simp only [e3] at h
            refine ⟨W2, st2, dx, dy, _, r2.wok, Vw.of r2 (h1.step r1 s2) e1, Vw.of r2 h2 e2, e3, fun W3 H3 v3 s3 w3 hd => ⟨true, hd, ?_⟩⟩
            have r3 := r2.step s3 w3
            refine ⟨W3, ρ, st2, r3, ?_⟩
            cases e5 : fc ρ st2 with
            | exc c v st4 => simp only [e5, Out.bind_exc] at h; exact XO.per ((s1.trans s2).trans s3).toPer h
            | bad => simp only [e5, Out.bind_bad] at h
            | ok z st4 =>
              simp only [e5, Out.bind_ok] at h
              intro W4 H4 v4 r4 s4 h4
              cases e6 : view ρ st4 y with
              | none => simp only [e6] at h
              | some dy' =>
                cases e7 : view ρ st4 z with
                | none => simp only [e6, e7] at h
                | some dz =>
                  simp only [e6, e7] at h
                  cases e8 : g' dy' dz with
                  | none => simp only [e8, Option.map_none, Out.of_none] at h
                  | some d' =>
                    simp only [e8, Option.map_some, Out.of_some] at h
                    exact ⟨W4, st4, dy', dz, d', r4.wok, Vw.of r4 ((h2.step r2 s3).step r3 s4) e6, Vw.of r4 h4 e7, e8, fun W5 H5 v5 s5 w5 hd => h W5 H5 v5 (r4.step s5 w5) ((((s1.trans s2).trans s3).trans s4).trans s5) hd⟩
        | non => simp only [e3] at h
        | int _ => simp only [e3] at h
        | str _ => simp only [e3] at h
        | tup _ => simp only [e3] at h
        | lst _ => simp only [e3] at h
        | ref _ => simp only [e3] at h
        | scr _ => simp only [e3] at h
        | dic _ _ => simp only [e3] at h
theorem me_chain {op op' : CmpOp} {g g' : D → D → Option D} (ho : OpR J.X (compareOp op) (rD2 J.f.T.K g)) (ho' : OpR J.X (compareOp op') (rD2 J.f.T.K g')) (ha : ME J a fa) (hb : ME J b fb) (hc : ME J c fc)
    (hm : lastMarks [op, op'] [b, c] = false := by with_unfolding_all rfl) : ME J (.Compare a [op, op'] [b, c] pos) (eChain g g' fa fb fc) := PE.up (pe_chain ho ho' ha hb hc hm) fun _ _ _ h => chain_read h
theorem mt_chain {op op' : CmpOp} {g g' : D → D → Option D} (ho : OpR J.X (compareOp op) (rD2 J.f.T.K g)) (ho' : OpR J.X (compareOp op') (rD2 J.f.T.K g')) (ha : ME J a fa) (hb : ME J b fb) (hc : ME J c fc)
    (hm : lastMarks [op, op'] [b, c] = false := by with_unfolding_all rfl) : MT J (.Compare a [op, op'] [b, c] pos) (tVal (eChain g g' fa fb fc)) := by
  refine PT.up (pt_chain ho ho' ha hb hc hm) fun σ H Q h => ?_
  refine chain_read (J := J) (Q := fun x H1 => ∃ k, x = .bl k ∧ Q k H1) ?_
  obtain ⟨W, ρ, st, r, h⟩ := h
  refine ⟨W, ρ, st, r, ?_⟩
  unfold tVal at h
  cases e : eChain g g' fa fb fc ρ st with
  | exc c v st2 => simp only [e, Out.bind_exc] at h; exact h
  | bad => simp only [e, Out.bind_bad] at h
  | ok y st2 =>
    simp only [e, Out.bind_ok] at h
    split at h
    · rename_i o k st3 hz
      split at hz
      · rename_i k2
        cases hz
        exact fun W' H' v r' s' hr => ⟨k, hr, h W' H' r' s'⟩
      · cases hz
    · rename_i hz
      split at hz <;> cases hz
    · exact h.elim
/-- x, y, z = a, b, c -/
theorem ms_par3 (i j l : Nat) {x y z : Str} {px py pz pt : Pos} {kt k2 : Nat} {pt2 : Pos} {g : AF} (hc : J.calm = true) (ha : MA J [a, b, c] g) (hi : J.X.N[i]? = some x := by rfl) (hj : J.X.N[j]? = some y := by rfl) (hl : J.X.N[l]? = some z := by rfl)
    (hij : i ≠ j := by decide) (hil : i ≠ l := by decide) (hjl : j ≠ l := by decide)
    (hx : J.X.env.scope.names.lookup x = some .local := by rfl) (hy : J.X.env.scope.names.lookup y = some .local := by rfl) (hz : J.X.env.scope.names.lookup z = some .local := by rfl)
    (hw : swappedStores [.Tuple [.Name x px, .Name y py, .Name z pz] kt pt] (.Tuple [a, b, c] k2 pt2) J.X.env = pure (some [x, y, z]) := by rfl)
    (hs : swapsWithSole [.Tuple [.Name x px, .Name y py, .Name z pz] kt pt] (.Tuple [a, b, c] k2 pt2) pos.line J.X.env = pure false := by rfl) :
    MS J (.Assign [.Tuple [.Name x px, .Name y py, .Name z pz] kt pt] (.Tuple [a, b, c] k2 pt2) pos) (sPar [i, j, l] g) := by
  refine PS.up (ps_par3 (X := J.X) hc J.nd hi hj hl hij hil hjl hx hy hz ha.1 hw hs) fun D σ H q => ?_
  obtain ⟨W, ρ, st, r, q⟩ := q
  refine ⟨W, ρ, st, r, ?_⟩
  unfold sPar at q
  cases e : g ρ st with
  | exc c v st2 => rw [e] at q; exact q
  | bad => rw [e] at q; exact q
  | ok ds st1 =>
    rw [e] at q
    simp only [Out.bindS_ok] at q
    intro W1 H1 vs r1 s1 h1
    have hn := ha.2 ρ st ds st1 e
    match ds, hn with
    | [d1, d2, d3], _ =>
      obtain ⟨v1, t1, e1, g1, v2, t2, e2, g2, v3, t3, e3, g3, e4⟩ := h1
      subst e4 e3 e2 e1
      exact ⟨v1, v2, v3, rfl, q W1 H1 _ (((r1.set g1).set g2).set g3) s1.toPer⟩
/-- {}, never changed -/
def eDic0 : EF := fun _ st => .ok (.d (.dic [] [])) st
theorem me_dic0 : ME J (.Dict [] [] pos) eDic0 := by
  refine PE.up pe_dnewK fun σ H Q q => ?_
  obtain ⟨W, ρ, st, r, q⟩ := q
  intro p hp
  have s := Step.laid r.wok hp (.dK [])
  exact q _ _ _ (r.step s (r.wok.laid hp _)) s ⟨p, [], rfl, .inl rfl, upd_same, rfl, rfl⟩
/-- {k: e}, never changed -/
def eDic1 (k : Sum Int Str) (a : EF) : EF := fun ρ st => (eTake a ρ st).bind fun d st1 => .ok (.d (.dic [k] [d])) st1
theorem me_dic1 {k : Sum Int Str} {kx : Expr} (hk : PE J.X kx (tC (kV k))) (ha : ME J a fa) : ME J (.Dict [some kx] [a] pos) (eDic1 k fa) := by
  refine PE.up (pe_disp (X := J.X) (pps_cons hk ha pps_nil) rfl rfl (by simp) (by show 1 ≤ 15; decide)) fun σ H Q q => ?_
  obtain ⟨W, ρ, st, r, q⟩ := q
  intro p hp
  have s := Step.own r.wok hp (.dK [])
  have w := r.wok.own hp (.dK [])
  show rdE J.f J.EW fa σ _ _
  have r0 := r.step s w
  refine ⟨W, ρ, st, r0, ?_⟩
  unfold eDic1 eTake at q
  cases e : fa ρ st with
  | exc c v st2 => rw [e] at q; exact XO.per s.toPer q
  | bad => rw [e] at q; exact q
  | ok z st1 =>
    rw [e] at q
    simp only [Out.bind_ok] at q
    cases e2 : dOf z with
    | none => rw [e2] at q; exact q.elim
    | some d =>
      rw [e2] at q
      simp only [Out.of_some, Out.bind_ok] at q
      intro W1 H1 v1 r1 s1 h1
      have nz : ¬ W.Z p := fun hz => r.wok.zok p hz hp
      have np : p ∉ W.φ := fun hm => r.wok.tr hm hp
      obtain ⟨k1, k2, k3⟩ := s1.keep p (by rw [upd_same]; simp) nz np
      have hd := h1.dat e2
      refine ⟨by rw [k1, upd_same], [(k, v1)], rfl, by show 1 ≤ 15; decide, ?_⟩
      have em : mergeK [] [(k, v1)] = [(k, v1)] := by simp [mergeK, putK]
      rw [em]
      have p1 := Per.fz W1 (upd H1 p (.dK [(k, v1)])) p
      obtain ⟨p0, w0⟩ := r1.wok.wr k2 k3 (.dK [(k, v1)])
      have w1 := w0.fz (p := p) (by rw [upd_same]; simp) k3
      have st2 : Step W H (W1.fz p) (upd H1 p (.dK [(k, v1)])) := by
        have s2 := (s.trans s1).wr hp k2 (.dK [(k, v1)])
        refine ⟨s2.toPer.trans p1, fun b h1 h2 h3 => ?_⟩
        obtain ⟨g1, g2, g3⟩ := s2.keep b h1 h2 h3
        refine ⟨g1, fun z => z.elim (fun e => h1 (by rw [e]; exact hp)) g2, g3⟩
      exact q _ _ _ (r.step st2 w1) st2 ⟨p, [(k, v1)], rfl, .inl rfl, upd_same, rfl, ⟨v1, [], rfl, Dat.per (p0.trans p1) _ _ hd, rfl⟩⟩
end
end DL

/-! DLY: an own exception class: its making, and the facts told of it. -/
namespace DL
open PySem L2 PySem.Spec PyProof.Rows
/-- Parent.__init__(self, text); self.fld = given -/
def tIni (K : PySem.W.Frag) (fld : Str) : TS := fun D σ H => ∃ (a C : Addr) (y : V), σ[0]? = some (some (.ref a)) ∧ σ[1]? = some (some y) ∧ OexC K C ∧ PySem.W.findIn K (.ref C) fld = some none ∧ H a = some (exo a C none) ∧
  ∀ dx, H dx = none → dx ≠ a → D.nx σ (upd (upd H dx (exd dx [(fld, y)])) a (exo a C (some dx)))
theorem pss_ini {X : Cx} {P n0 n1 fld : Str} {m : Str} {C0 : Addr} {mc : Value} {pl : Sem Bool} {j : Nat} {p1 p2 p3 p4 p5 p6 p7 p8 p9 p10 : Pos} (hg : Gl X P) (hm : X.mg P = some (.ref C0))
    (g1 : PySem.W.specialIn X.K (.ref C0) "__getattribute__" = some (some (.builtin "type.__getattribute__"))) (g2 : PySem.W.readsIn X.K C0 mc = true) (g3 : PySem.W.findCls X.K (.ref C0) mc "__init__" = some (.val (.builtin "ValueError.__init__")))
    (h0 : X.N[0]? = some n0 := by rfl) (h1 : X.N[1]? = some n1 := by rfl) (v0 : Vis X.env.scope n0 := by exact Or.inl rfl) (v1 : Vis X.env.scope n1 := by exact Or.inl rfl)
    (d0 : (n0 == ("__debug__" : Str)) = false := by decide) (c0 : (n0 == ("__classdict__" : Str)) = false := by decide) (d1 : (n1 == ("__debug__" : Str)) = false := by decide) (c1 : (n1 == ("__classdict__" : Str)) = false := by decide) (dP : (P == ("__debug__" : Str)) = false := by decide)
    (hc : eval (.Call (.Attribute (.Name P p1) "__init__" p2) [.Name n0 p3, .Constant (.str m) j p4] [] p5) X.env = (do
      let ov ← eval (.Name P p1) X.env
      standAt p2.atName
      let (f, first) ← holding [ov] (getMethod ov "__init__" pl)
      callWith p5 f first (backTo p5 (starEach [.Name n0 p3, .Constant (.str m) j p4] X.env)) (backToKw p5 (keywordEach [] X.env))) := by rfl)
    (e1 : starEach [.Name n0 p3, .Constant (.str m) j p4] X.env = (false, eval (.Name n0 p3) X.env) :: starEach [.Constant (.str m) j p4] X.env := by rfl) (e2 : starEach [.Constant (.str m) j p4] X.env = (false, eval (.Constant (.str m) j p4) X.env) :: starEach [] X.env := by rfl)
    (hpl : (backTo p5 (starEach [.Constant (.str m) j p4] X.env)).any (·.1) = false := by rfl)
    (s1 : swapsWith (.Call (.Attribute (.Name P p1) "__init__" p2) [.Name n0 p3, .Constant (.str m) j p4] [] p5) none p6.line X.env = pure false := by rfl) (s2 : swapsWith (.Name n1 p9) (some (.Attribute (.Name n0 p7) fld p8)) p10.line X.env = pure false := by rfl) :
    PSs X [.Expr (.Call (.Attribute (.Name P p1) "__init__" p2) [.Name n0 p3, .Constant (.str m) j p4] [] p5) p6, .Assign [.Attribute (.Name n0 p7) fld p8] (.Name n1 p9) p10] (tIni X.K fld) := by
  refine PSs.up (pss_cons (ps_expr (pe_parini hg hm g1 g2 g3 (pa_cons (pe_var h0 v0 d0 c0) (pa_cons pe_str pa_nil e2) e1) dP hc e1 hpl) s1) (pss_one (ps_ost (pe_var h0 v0 d0 c0) (pe_var h1 v1 d1 c1) s2))) fun D σ H q => ?_
  obtain ⟨a, C, y, g0, g1', T, hno, hH, q⟩ := q
  refine ⟨.ref a, g0, a, C, [.str m], rfl, by show 1 ≤ 1000; decide, T, hH, y, g1', .ref a, g0, a, C, rfl, T, hno, .inl ⟨hH, fun dx n ne => q dx n ne⟩⟩
theorem ini_ok {T : Tab} {x qual p1 p2 fld : Str} {st : Stmt} {f C : Addr} {fd : FuncData} {k : Nat} (F : Fun T.K x qual st f fd) (S : FnScope [p1, p2] [p1, p2] (defScope st))
    (hb : ∀ (cdv : Value) (A : Around) (outer : List PySem.Env) (s : Shared) (H : Hp) (E : XK), PSs (cxOf (L2.CX T.P T.w) T.P T.w T.K T.mg T.base [p1, p2] qual (defScope st) f cdv A outer s H E) (defBody st) (tIni T.K fld)) :
    FnOk T.P T.w T.K T.mg T.base (L2.CX T.P T.w) (k + 1) f fd [p1, p2] (spIni T.K C fld) := by
  refine F.okX S (fun vs H Q E h => ?_) (fun cdv A outer s H vs Q E hr h => ?_)
  · obtain ⟨a, y, rfl, _⟩ := h
    rfl
  · obtain ⟨a, y, rfl, h1, h2, h3, h4⟩ := h
    exact ⟨_, hb cdv A outer s H E, a, C, y, rfl, rfl, h1, h2, h3, fun dx n ne => h4 dx n ne⟩
/-- the class object's own look -/
def oexS (C : Addr) (cd : ClassData) (sl : Array (Option Value)) : Bool := match cd.mro, sl.toList with
  | .ref C' :: bm, [_, _, _, _, some (.builtin n), _] => C' == C && n == "ValueError.__new__" && !cd.hasDel && cd.hasDict && PySem.HandSPX.refsVE bm
  | _, _ => false
theorem oex_of {K : PySem.W.Frag} {C : Addr} {dd : Option Addr} {cd : ClassData} {sl : Array (Option Value)} (ho : K.lookup C = some ⟨.type "type", dd, .cls cd, sl⟩) (q : oexS C cd sl = true) (sa : PySem.W.findIn K (.ref C) "__setattr__" = some (some (.builtin "object.__setattr__")))
    (exC : PySem.W.subIn K (.ref C) (.type "BaseException") = some true) (tyC : PySem.W.typeIn K (.ref C) = some (.type "type")) (kC : PySem.W.keepIn K (.ref C) = true) : OexC K C := by
  refine ⟨?_, sa, exC, tyC, kC⟩
  unfold oexS at q
  split at q
  · rename_i C' bm k0 k1 k2 k3 n k5 hm hs
    simp only [Bool.and_eq_true, beq_iff_eq, Bool.not_eq_true'] at q
    obtain ⟨⟨⟨⟨rfl, rfl⟩, hdel⟩, hdict⟩, hre⟩ := q
    obtain ⟨nm, bs, mro, ns, qn, hd, sn, sub, ab, col, del⟩ := cd
    dsimp only at hm hdel hdict
    subst hm hdel hdict
    have hsl : sl = #[k0, k1, k2, k3, some (.builtin "ValueError.__new__"), k5] := by
      obtain ⟨l⟩ := sl
      simp only at hs
      rw [hs]
    subst hsl
    exact ⟨nm, qn, ns, bs, bm, sn, sub, ab, col, dd, k0, k1, k2, k3, k5, ho, hre⟩
  · cases q
theorem kit_refs {K : PySem.W.Frag} {D C : Addr} {b : Bool} (hdct : PySem.W.hasDictIn K C = true) (ht : PySem.W.typeIn K (.ref C) = some (.type "type")) (h : PySem.W.subIn K (.ref D) (.ref C) = some b) (hs : D = C → b = true) : PySem.W.kitOne K (.ref D) (.ref C) = some b := by
  unfold PySem.W.kitOne
  by_cases e : D = C
  · rw [if_pos (by rw [e]; exact beq_self_eq_true _), hs e]
  · rw [if_neg (by simpa using e)]
    unfold PySem.W.kitCls
    obtain ⟨cd, hc, _⟩ := PySem.W.any_some hdct
    have z : ((PySem.W.clsIn K C).isSome && PySem.W.typeIn K (.ref C) == some (.type "type")) = true := by rw [hc, ht] <;> rfl
    first
      | (simp only [z, if_true]; exact h)
      | (split <;> first | exact h | simp_all)
end DL

/-! DLZ: what the printed derivations lean on. -/
namespace DL
open PySem L2 PySem.Spec PyProof.Rows
/-- a constant of the module -/
def Gd (T : Tab) (x : Str) (d : D) : Prop := ∃ u v, T.mg x = some u ∧ RelV v u ∧ ∀ W H, Dat T.K W H d v
theorem Gd.int {T : Tab} {x : Str} {i : Int} {t : Tok} (h : T.mg x = some (.int i t)) : Gd T x (.int i) := ⟨_, .int i, h, ⟨t, rfl⟩, fun _ _ => rfl⟩
theorem Gd.str {T : Tab} {x : Str} {i : Str} {t : Tok} (h : T.mg x = some (.str i t)) : Gd T x (.str i) := ⟨_, .str i, h, ⟨t, rfl⟩, fun _ _ => rfl⟩
theorem me_globD {J : Jx} {x : Str} {d : D} {pos : Pos} (h : Gd J.f.T x d) (hg : Gl J.X x) (hdb : (x == ("__debug__" : Str)) = false := by decide) : ME J (.Name x pos) (eC d) := by
  obtain ⟨u, v, h1, h2, h3⟩ := h
  exact me_glob hg h1 h2 h3 hdb
theorem KB.of {K : PySem.W.Frag} {x qual : Str} {st : Stmt} {f : Addr} {fd : FuncData} {ps : List Str} {n : Nat} {ks : List Str} {pm : List Nat} (F : Fun K x qual st f fd)
    (h : ∀ (kV doc pn : Value) (an : Option Addr) (cdv ct : Value) (us ws : List Value), us.length = n → ws.length = ks.length →
      bindArgs (PySem.W.fnOf x qual (defArgs st) (defBody st) (defScope st) .none kV doc pn an cdv ct) ⟨us, ks.zip ws⟩ = pure (ps.zip (DL.pmut pm (us ++ ws)))) : KB K fd ps n ks pm := by
  obtain ⟨oc, od, kV, doc, pn, an, cdv, ct, osl, rfl, lk, hcd⟩ := F.ex
  exact fun s us ws _ h1 h2 => .of_eq (h kV doc pn an cdv ct us ws h1 h2)
/-- a def's promise, its facts put together -/
def Fn.of {T : Tab} {x : Str} {st : Stmt} {f : Addr} {fd : FuncData} {N ps : List Str} {k : Nat} {M : SF} (F : Fun T.K x x st f fd) (hm : T.mg x = some (.ref f)) (S : FnScope N ps (defScope st)) (hps : ps.length ≤ N.length)
    (hbd : ∀ (kV doc pm : Value) (an : Option Addr) (cdv ct : Value) (us : List Value), us.length = ps.length → bindArgs (PySem.W.fnOf x x (defArgs st) (defBody st) (defScope st) .none kV doc pm an cdv ct) ⟨us, []⟩ = pure (ps.zip us))
    (hb : ∀ cdv A outer s H E W n0 hr hgd, MSs (jOf T x st f cdv N S.nd k A outer s H E W n0 hr hgd) (defBody st) M) : Fn T (k + 1) x ps (runD N.length M) :=
  ⟨f, fd, fn_ok F S hps hb, hm, F.kp, F.binds hbd⟩
theorem Fn.fd_eq {T : Tab} {x : Str} {st : Stmt} {f : Addr} {fd : FuncData} {N ps : List Str} {k : Nat} {M : SF} {F : Fun T.K x x st f fd} {hm : T.mg x = some (.ref f)} {S : FnScope N ps (defScope st)} {hps hbd} {hb : ∀ cdv A outer s H E W n0 hr hgd, MSs (jOf T x st f cdv N S.nd k A outer s H E W n0 hr hgd) (defBody st) M} : (Fn.of F hm S hps hbd hb).fd = fd := rfl
/-- a mirror that is never asked -/
def badM : FM := fun _ _ => .bad
/-- at a deeper level -/
def Fn.up {T : Tab} {j k : Nat} {x : Str} {ps : List Str} {M : FM} (F : Fn T j x ps M) (h : j ≤ k) : Fn T k x ps M := ⟨F.f, F.fd, F.ok.mono h, F.mg, F.kp, F.bd⟩
/-- a mirror that does as another wherever it does anything -/
def Fn.imp {T : Tab} {k : Nat} {x : Str} {ps : List Str} {M M' : FM} (F : Fn T k x ps M) (h : ∀ ds st, M' ds st = .bad ∨ M' ds st = M ds st) : Fn T k x ps M' :=
  ⟨F.f, F.fd, ⟨fun us H Q E hs => hs.1, fun A outer s H args us vs Q E g r e0 b rv hs => F.ok.run A outer s H args us vs Q E g r e0 b rv (by
    obtain ⟨hl, W, st, ds, w, hd, q⟩ := hs
    refine ⟨hl, W, st, ds, w, hd, ?_⟩
    rcases h ds st with e | e
    · rw [e] at q; exact q.elim
    · rw [e] at q; exact q)⟩, F.mg, F.kp, F.bd⟩
end DL

namespace K43
open PySem L2 PySem.Spec PyProof.Rows DL
def c_MOST_DAYS : D := .int 31
def subX (c k : String) : Bool := (c == "InvalidCalendars" && k == "InvalidCalendars") || (c == "InvalidCalendars" && k == "PlanError") || (c == "InvalidDuration" && k == "InvalidDuration") || (c == "InvalidDuration" && k == "PlanError") || (c == "InvalidEnd" && k == "InvalidEnd") || (c == "InvalidEnd" && k == "PlanError") || (c == "InvalidStart" && k == "InvalidStart") || (c == "InvalidStart" && k == "PlanError")
def fld_given (c : String) : Bool := c == "InvalidCalendars" || c == "InvalidDuration" || c == "InvalidEnd" || c == "InvalidStart"
def N__law_box : List Str := ["great"]
def B__law_box : SF :=
  (sSeq (sRet (eBox (lDisp (aCons (eB absB (hCons (eVar 0) hNil)) (aCons (eOp geD (eB absB (hCons (eVar 0) hNil)) (eOp powD (eC (.int 10)) (eC (.int 18)))) (aCons (eOp modD (eB intB (hCons (eB absB (hCons (eVar 0) hNil)) hNil)) (eC (.int 2147483629))) (aCons (eC (.int 0)) aNil)))))))
    sNil)
def Q_law_box : FM := runD 1 B__law_box
def N__law_cell : List Str := ["script", "k"]
def B__law_cell : SF :=
  (sSeq (sRet (eIf (tVal (eOp ltD (eVar 1) (eB lenB (hCons (eVar 0) hNil)))) (eIx (eVar 0) (eVar 1)) (eOp addD (eOp mulD (eC (.int 7237)) (eVar 1)) (eOp modD (eB intB (hCons (eB sumB (hCons (eSl (eVar 0) oNone (oSome (eC (.int 1)))) hNil)) hNil)) (eC (.int 1000003))))))
    sNil)
def Q_law_cell : FM := runD 2 B__law_cell
def N__law_take : List Str := ["box", "many", "digit", "mixed"]
def B__law_take : SF :=
  (sSeq (sIf (DL.tAnd (tTru (eIx (eVar 0) (eC (.int 1)))) (tVal (eOp gtD (eIx (eVar 0) (eC (.int 0))) (eC (.int 0))))) (sSeq (sSet 2 (eOp modD (eB intB (hCons (eIx (eVar 0) (eC (.int 0))) hNil)) (eVar 1)))
    (sSeq (sSetIx 0 (eC (.int 0)) (eOp fdivD (eIx (eVar 0) (eC (.int 0))) (eVar 1)))
    (sSeq (sRet (eVar 2))
    sNil))) sNil)
    (sSeq (sSetIx 0 (eC (.int 3)) (eOp addD (eIx (eVar 0) (eC (.int 3))) (eC (.int 1))))
    (sSeq (sSet 3 (eOp modD (eB intB (hCons (eOp powD (eOp addD (eOp addD (eIx (eVar 0) (eC (.int 2))) (eOp mulD (eC (.int 15486091)) (eIx (eVar 0) (eC (.int 3))))) (eC (.int 179424907))) (eC (.int 5))) hNil)) (eC (.int 2147483647))))
    (sSeq (sRet (eOp modD (eB intB (hCons (eOp fdivD (eOp modD (eB intB (hCons (eOp powD (eOp addD (eOp mulD (eVar 3) (eC (.int 48271))) (eOp mulD (eC (.int 7237)) (eIx (eVar 0) (eC (.int 3))))) (eC (.int 3))) hNil)) (eC (.int 2147483587))) (eC (.int 64))) hNil)) (eVar 1)))
    sNil))))
def Q_law_take : FM := runD 4 B__law_take
def N__law_calendar : List Str := ["box", "many", "way", "days", "at", "day"]
def B__law_calendar : SF :=
  (sSeq (sPar [1, 2] (aCons (eIx (eLst (lDisp (aCons (eC (.int 7)) (aCons (eOp addD (eC (.int 1)) (eCall Q_law_take (aCons (eVar 0) (aCons (eC (.int 31)) aNil)))) (aCons (eC (.int 31)) (aCons (eOp addD (eC (.int 1)) (eCall Q_law_take (aCons (eVar 0) (aCons (eC (.int 4)) aNil)))) aNil)))))) (eCall Q_law_take (aCons (eVar 0) (aCons (eC (.int 4)) aNil)))) (aCons (eCall Q_law_take (aCons (eVar 0) (aCons (eC (.int 6)) aNil))) aNil)))
    (sSeq (sSet 3 (eLst (lComp (iRng (aCons (eVar 1) aNil)) (.n 5) tYesF (eCall Q_law_take (aCons (eVar 0) (aCons (eC (.int 2)) aNil))) [5])))
    (sSeq (sIf (tVal (eOp eqD (eVar 2) (eC (.int 0)))) (sSeq (sSet 3 (eOp mulD (eLst (lDisp (aCons (eC (.int 1)) aNil))) (eVar 1)))
    sNil) sNil)
    (sSeq (sIf (DL.tOr (tVal (eOp eqD (eVar 2) (eC (.int 1)))) (tVal (eOp eqD (eB maxB (hCons (eVar 3) hNil)) (eC (.int 0))))) (sSeq (sSet 4 (eIx (eLst (lDisp (aCons (eC (.int 0)) (aCons (eOp subD (eVar 1) (eC (.int 1))) (aCons (eCall Q_law_take (aCons (eVar 0) (aCons (eVar 1) aNil))) aNil))))) (eCall Q_law_take (aCons (eVar 0) (aCons (eC (.int 3)) aNil)))))
    (sSeq (sSet 3 (eLst (lComp (iRng (aCons (eVar 1) aNil)) (.n 5) tYesF (eIf (tVal (eOp eqD (eVar 5) (eVar 4))) (eC (.int 1)) (eC (.int 0))) [5])))
    sNil)) sNil)
    (sSeq (sRet (eB tupleB (hCons (eVar 3) hNil)))
    sNil)))))
def Q_law_calendar : FM := runD 6 B__law_calendar
def N__law_same : List Str := ["given", "due", "k"]
def B__law_same (R : FM) : SF :=
  (sSeq (sIf (DL.tOr (tVal (eOp isNonD (eVar 1) (eC .non))) (tTru (eIs ["bool"] (eVar 1)))) (sSeq (sRet (eIf (tVal (eOp isNonD (eVar 1) (eC .non))) (eOp isNonD (eVar 0) (eC .non)) (eAnd (eIs ["bool"] (eVar 0)) (eOp eqD (eOp isNonD (eVar 0) (eC (.bl true))) (eOp isNonD (eVar 1) (eC (.bl true)))))))
    sNil) sNil)
    (sSeq (sIf (tTru (eIs ["int"] (eVar 1))) (sSeq (sRet (eAnd (eIs ["int"] (eVar 0)) (eAnd (eNot (eIs ["bool"] (eVar 0))) (eOp eqD (eOp subD (eB intB (hCons (eVar 0) hNil)) (eVar 1)) (eC (.int 0))))))
    sNil) sNil)
    (sSeq (sIf (tTru (eIs ["str"] (eVar 1))) (sSeq (sRet (eAnd (eIs ["str"] (eVar 0)) (eAnd (eOp eqD (eB lenB (hCons (eVar 0) hNil)) (eB lenB (hCons (eVar 1) hNil))) (eOp eqD (eLst (lComp (iRng (aCons (eB lenB (hCons (eVar 1) hNil)) aNil)) (.n 2) (tVal (eOp neD (eSl (eVar 0) (oSome (eVar 2)) (oSome (eOp addD (eVar 2) (eC (.int 1))))) (eIx (eVar 1) (eVar 2)))) (eVar 2) [2])) (eLst (lDisp aNil))))))
    sNil) sNil)
    (sSeq (sIf (DL.tOr (tVal (eOp neD (eIs ["list"] (eVar 0)) (eIs ["list"] (eVar 1)))) (tVal (eOp neD (eIs ["tuple"] (eVar 0)) (eIs ["tuple"] (eVar 1))))) (sSeq (sRet (eC (.bl false)))
    sNil) sNil)
    (sSeq (sRet (eAnd (eOp eqD (eB lenB (hCons (eVar 0) hNil)) (eB lenB (hCons (eVar 1) hNil))) (eOp eqD (eLst (lComp (iRng (aCons (eB lenB (hCons (eVar 1) hNil)) aNil)) (.n 2) (tNot (tTru (eCall R (aCons (eIx (eVar 0) (eVar 2)) (aCons (eIx (eVar 1) (eVar 2)) aNil))))) (eVar 2) [2])) (eLst (lDisp aNil)))))
    sNil)))))
def Q_law_same_ : Nat → FM
  | 0 => runD 3 sBad
  | n + 1 => runD 3 (B__law_same  (Q_law_same_ n))
def Q_law_same : FM := Q_law_same_ 4
def N_is_integer : List Str := ["value"]
def B_is_integer : SF :=
  (sSeq (sRet (eAnd (eIs ["int"] (eVar 0)) (eNot (eIs ["bool"] (eVar 0)))))
    sNil)
def Qis_integer : FM := runD 1 B_is_integer
def N_is_calendar : List Str := ["value", "item"]
def B_is_calendar : SF :=
  (sSeq (sIf (DL.tOr (tNot (tTru (eIs ["tuple"] (eVar 0)))) (tNot (tVal (eChain leD leD (eC (.int 1)) (eB lenB (hCons (eVar 0) hNil)) (eC c_MOST_DAYS))))) (sSeq (sRet (eC (.bl false)))
    sNil) sNil)
    (sSeq (sRet (eAnd (eB allB (hCons (eLst (lComp (iData (eVar 0)) (.n 1) tYesF (eAnd (eCall Qis_integer (aCons (eVar 1) aNil)) (eOp inD (eVar 1) (eTup (aCons (eC (.int 0)) (aCons (eC (.int 1)) aNil))))) [1])) hNil)) (eOp inD (eC (.int 1)) (eVar 0))))
    sNil))
def Qis_calendar : FM := runD 2 B_is_calendar
def N_check_calendar : List Str := ["calendar"]
def B_check_calendar : SF :=
  (sSeq (sIf (tNot (tTru (eCall Qis_calendar (aCons (eVar 0) aNil)))) (sSeq (sRaise "InvalidCalendars" (eVar 0))
    sNil) sNil)
    sNil)
def Qcheck_calendar : FM := runD 1 B_check_calendar
def N_is_count : List Str := ["value"]
def B_is_count : SF :=
  (sSeq (sRet (eAnd (eCall Qis_integer (aCons (eVar 0) aNil)) (eOp geD (eVar 0) (eC (.int 0)))))
    sNil)
def Qis_count : FM := runD 1 B_is_count
def N_days_until : List Str := ["calendar", "time", "size"]
def B_days_until : SF :=
  (sSeq (sSet 2 (eB lenB (hCons (eVar 0) hNil)))
    (sSeq (sRet (eOp addD (eOp mulD (eOp fdivD (eVar 1) (eVar 2)) (eB sumB (hCons (eVar 0) hNil))) (eB sumB (hCons (eSl (eVar 0) oNone (oSome (eOp modD (eVar 1) (eVar 2)))) hNil))))
    sNil))
def Qdays_until : FM := runD 3 B_days_until
def N_time_of_day : List Str := ["calendar", "number", "days", "day", "item"]
def B_time_of_day : SF :=
  (sSeq (sSet 2 (eLst (lComp (iEnumF (aCons (eVar 0) aNil)) (.t [(.n 3), (.n 4)]) (tVal (eOp eqD (eVar 4) (eC (.int 1)))) (eVar 3) [3, 4])))
    (sSeq (sRet (eOp addD (eOp mulD (eOp fdivD (eVar 1) (eB lenB (hCons (eVar 2) hNil))) (eB lenB (hCons (eVar 0) hNil))) (eIx (eVar 2) (eOp modD (eVar 1) (eB lenB (hCons (eVar 2) hNil))))))
    sNil))
def Qtime_of_day : FM := runD 5 B_time_of_day
def N_begun_at : List Str := ["calendar", "end", "duration", "before"]
def B_begun_at : SF :=
  (sSeq (sIf (tVal (eOp eqD (eVar 2) (eC (.int 0)))) (sSeq (sRet (eVar 1))
    sNil) sNil)
    (sSeq (sSet 3 (eOp subD (eCall Qdays_until (aCons (eVar 0) (aCons (eVar 1) aNil))) (eVar 2)))
    (sSeq (sRet (eIf (tVal (eOp ltD (eVar 3) (eC (.int 0)))) (eC .non) (eCall Qtime_of_day (aCons (eVar 0) (aCons (eVar 3) aNil)))))
    sNil)))
def Qbegun_at : FM := runD 4 B_begun_at
def N_begun : List Str := ["calendar", "end", "duration"]
def B_begun : SF :=
  (sSeq (sExpr (eCall Qcheck_calendar (aCons (eVar 0) aNil)))
    (sSeq (sIf (tNot (tTru (eCall Qis_count (aCons (eVar 1) aNil)))) (sSeq (sRaise "InvalidEnd" (eVar 1))
    sNil) sNil)
    (sSeq (sIf (tNot (tTru (eCall Qis_count (aCons (eVar 2) aNil)))) (sSeq (sRaise "InvalidDuration" (eVar 2))
    sNil) sNil)
    (sSeq (sRet (eCall Qbegun_at (aCons (eVar 0) (aCons (eVar 1) (aCons (eVar 2) aNil)))))
    sNil))))
def Qbegun : FM := runD 3 B_begun
def N_worked : List Str := ["calendar", "start", "end"]
def B_worked : SF :=
  (sSeq (sExpr (eCall Qcheck_calendar (aCons (eVar 0) aNil)))
    (sSeq (sIf (tNot (tTru (eCall Qis_count (aCons (eVar 1) aNil)))) (sSeq (sRaise "InvalidStart" (eVar 1))
    sNil) sNil)
    (sSeq (sIf (tNot (tTru (eCall Qis_count (aCons (eVar 2) aNil)))) (sSeq (sRaise "InvalidEnd" (eVar 2))
    sNil) sNil)
    (sSeq (sRet (eB maxB (hCons (eC (.int 0)) (hCons (eOp subD (eCall Qdays_until (aCons (eVar 0) (aCons (eVar 2) aNil))) (eCall Qdays_until (aCons (eVar 0) (aCons (eVar 1) aNil)))) hNil))))
    sNil))))
def Qworked : FM := runD 3 B_worked
def N_done_at : List Str := ["calendar", "start", "duration"]
def B_done_at : SF :=
  (sSeq (sRet (eIf (tVal (eOp eqD (eVar 2) (eC (.int 0)))) (eVar 1) (eOp addD (eC (.int 1)) (eCall Qtime_of_day (aCons (eVar 0) (aCons (eOp subD (eOp addD (eCall Qdays_until (aCons (eVar 0) (aCons (eVar 1) aNil))) (eVar 2)) (eC (.int 1))) aNil))))))
    sNil)
def Qdone_at : FM := runD 3 B_done_at
def N_done : List Str := ["calendar", "start", "duration"]
def B_done : SF :=
  (sSeq (sExpr (eCall Qcheck_calendar (aCons (eVar 0) aNil)))
    (sSeq (sIf (tNot (tTru (eCall Qis_count (aCons (eVar 1) aNil)))) (sSeq (sRaise "InvalidStart" (eVar 1))
    sNil) sNil)
    (sSeq (sIf (tNot (tTru (eCall Qis_count (aCons (eVar 2) aNil)))) (sSeq (sRaise "InvalidDuration" (eVar 2))
    sNil) sNil)
    (sSeq (sRet (eCall Qdone_at (aCons (eVar 0) (aCons (eVar 1) (aCons (eVar 2) aNil)))))
    sNil))))
def Qdone : FM := runD 3 B_done
def N__law_door : List Str := ["which", "calendar", "first", "last", "by_name", "e"]
def B__law_door : SF :=
  (sSeq (sTry subX (sSeq (sIf (tVal (eOp eqD (eVar 0) (eC (.int 0)))) (sSeq (sRet (eLst (lDisp (aCons (eC (.str "told")) (aCons (eIf (tTru (eVar 4)) (eCallK Qworked [2, 1, 0] aNil (aCons (eVar 3) (aCons (eVar 2) (aCons (eVar 1) aNil)))) (eCall Qworked (aCons (eVar 1) (aCons (eVar 2) (aCons (eVar 3) aNil))))) aNil)))))
    sNil) sNil)
    (sSeq (sIf (tVal (eOp eqD (eVar 0) (eC (.int 1)))) (sSeq (sRet (eLst (lDisp (aCons (eC (.str "told")) (aCons (eIf (tTru (eVar 4)) (eCallK Qdone [1, 2, 0] aNil (aCons (eVar 3) (aCons (eVar 1) (aCons (eVar 2) aNil)))) (eCall Qdone (aCons (eVar 1) (aCons (eVar 2) (aCons (eVar 3) aNil))))) aNil)))))
    sNil) sNil)
    (sSeq (sRet (eLst (lDisp (aCons (eC (.str "told")) (aCons (eIf (tTru (eVar 4)) (eCallK Qbegun [2, 1, 0] aNil (aCons (eVar 3) (aCons (eVar 2) (aCons (eVar 1) aNil)))) (eCall Qbegun (aCons (eVar 1) (aCons (eVar 2) (aCons (eVar 3) aNil))))) aNil)))))
    sNil))) [("InvalidCalendars", 5, (sSeq (sRet (eLst (lDisp (aCons (eC (.str "calendar")) (aCons (eXf (fld_given) 5) (aCons (eXis subX "PlanError" 5) aNil))))))
    sNil)), ("InvalidStart", 5, (sSeq (sRet (eLst (lDisp (aCons (eC (.str "start")) (aCons (eXf (fld_given) 5) (aCons (eXis subX "PlanError" 5) aNil))))))
    sNil)), ("InvalidEnd", 5, (sSeq (sRet (eLst (lDisp (aCons (eC (.str "end")) (aCons (eXf (fld_given) 5) (aCons (eXis subX "PlanError" 5) aNil))))))
    sNil)), ("InvalidDuration", 5, (sSeq (sRet (eLst (lDisp (aCons (eC (.str "duration")) (aCons (eXf (fld_given) 5) (aCons (eXis subX "PlanError" 5) aNil))))))
    sNil))])
    sNil)
def Q_law_door : FM := runD 6 B__law_door
def N__law_counted_right : List Str := ["box", "calendar", "first", "by_name", "times", "most", "s", "t", "here", "n", "there", "back", "turn", "k", "day"]
def B__law_counted_right : SF :=
  (sSeq (sPar [4, 5] (aCons (eLst (lComp (iRng (aCons (eC (.int 9)) aNil)) (.n 13) tYesF (eOp addD (eVar 2) (eVar 13)) [13])) (aCons (eLst (lDisp (aCons (eC (.int 0)) (aCons (eC (.int 1)) (aCons (eOp addD (eC (.int 1)) (eCall Q_law_take (aCons (eVar 0) (aCons (eC (.int 9)) aNil)))) aNil))))) aNil)))
    (sSeq (sFor (iData (eSl (eVar 4) oNone (oSome (eC (.int 5))))) (.n 6) (sSeq (sFor (iData (eVar 4)) (.n 7) (sSeq (sSet 8 (eB sumB (hCons (eLst (lComp (iRng (aCons (eVar 6) (aCons (eVar 7) aNil))) (.n 14) tYesF (eIx (eVar 1) (eOp modD (eB intB (hCons (eVar 14) hNil)) (eB lenB (hCons (eVar 1) hNil)))) [14])) hNil)))
    (sSeq (sIf (tNot (tTru (eCall Q_law_same (aCons (eCall Q_law_door (aCons (eC (.int 0)) (aCons (eVar 1) (aCons (eVar 6) (aCons (eVar 7) (aCons (eVar 3) aNil)))))) (aCons (eLst (lDisp (aCons (eC (.str "told")) (aCons (eVar 8) aNil)))) aNil))))) (sSeq (sRet (eC (.bl false)))
    sNil) sNil)
    (sSeq (sFor (iData (eVar 5)) (.n 9) (sSeq (sIf (tVal (eOp leD (eVar 6) (eVar 7))) (sSeq (sPar [10, 11] (aCons (eIx (eCall Q_law_door (aCons (eC (.int 1)) (aCons (eVar 1) (aCons (eVar 6) (aCons (eVar 9) (aCons (eNot (eVar 3)) aNil)))))) (eC (.int 1))) (aCons (eIx (eCall Q_law_door (aCons (eC (.int 2)) (aCons (eVar 1) (aCons (eVar 7) (aCons (eVar 9) (aCons (eVar 3) aNil)))))) (eC (.int 1))) aNil)))
    (sSeq (sIf (DL.tOr (tVal (eOp neD (eOp geD (eVar 8) (eVar 9)) (eOp leD (eVar 10) (eVar 7)))) (tVal (eOp neD (eOp geD (eVar 8) (eVar 9)) (eAnd (eOp isNotD (eVar 11) (eC .non)) (eOp geD (eVar 11) (eVar 6)))))) (sSeq (sRet (eC (.bl false)))
    sNil) sNil)
    sNil)) sNil)
    sNil) [])
    sNil))) [])
    sNil) [])
    (sSeq (sFor (iData (eVar 5)) (.n 9) (sSeq (sSet 10 (eVar 2))
    (sSeq (sFor (iRng (aCons (eOp addD (eOp mulD (eC (.int 31)) (eVar 9)) (eC (.int 1))) aNil)) (.n 12) (sSeq (sIf (tVal (eOp geD (eB sumB (hCons (eLst (lComp (iRng (aCons (eVar 2) (aCons (eVar 10) aNil))) (.n 14) tYesF (eIx (eVar 1) (eOp modD (eB intB (hCons (eVar 14) hNil)) (eB lenB (hCons (eVar 1) hNil)))) [14])) hNil)) (eVar 9))) (sSeq sBrk
    sNil) sNil)
    (sSeq (sSet 10 (eOp addD (eVar 10) (eC (.int 1))))
    sNil)) [])
    (sSeq (sIf (tNot (tTru (eCall Q_law_same (aCons (eCall Q_law_door (aCons (eC (.int 1)) (aCons (eVar 1) (aCons (eVar 2) (aCons (eVar 9) (aCons (eVar 3) aNil)))))) (aCons (eLst (lDisp (aCons (eC (.str "told")) (aCons (eVar 10) aNil)))) aNil))))) (sSeq (sRet (eC (.bl false)))
    sNil) sNil)
    sNil))) [])
    (sSeq (sRet (eC (.bl true)))
    sNil))))
def Q_law_counted_right : FM := runD 15 B__law_counted_right
def N__law_bad_calendar : List Str := ["box", "calendar", "at", "way", "items", "many"]
def B__law_bad_calendar : SF :=
  (sSeq (sPar [2, 3] (aCons (eCall Q_law_take (aCons (eVar 0) (aCons (eB lenB (hCons (eVar 1) hNil)) aNil))) (aCons (eCall Q_law_take (aCons (eVar 0) (aCons (eC (.int 16)) aNil))) aNil)))
    (sSeq (sSet 4 (eLst (lDisp (aCons (eC (.int 2)) (aCons (eUn negD (eC (.int 1))) (aCons (eC (.bl true)) (aCons (eC .non) (aCons (eC (.str "1")) (aCons (eTup (aCons (eC (.int 1)) aNil)) (aCons (eLst (lDisp (aCons (eC (.int 1)) aNil))) (aCons (eC (.bl false)) (aCons (eOp powD (eC (.int 10)) (eC (.int 30))) aNil))))))))))))
    (sSeq (sIf (tVal (eOp ltD (eVar 3) (eC (.int 9)))) (sSeq (sRet (eOp addD (eOp addD (eSl (eVar 1) oNone (oSome (eVar 2))) (eTup (aCons (eIx (eVar 4) (eVar 3)) aNil))) (eSl (eVar 1) (oSome (eOp addD (eVar 2) (eC (.int 1)))) oNone)))
    sNil) sNil)
    (sSeq (sSet 5 (eB lenB (hCons (eVar 1) hNil)))
    (sSeq (sRet (eIx (eLst (lDisp (aCons (eLst (lCall listB (hCons (eVar 1) hNil))) (aCons (eTup aNil) (aCons (eOp mulD (eTup (aCons (eC (.int 0)) aNil)) (eVar 5)) (aCons (eOp addD (eVar 1) (eOp mulD (eTup (aCons (eC (.int 1)) aNil)) (eOp subD (eC (.int 32)) (eVar 5)))) (aCons (eOp addD (eVar 1) (eOp mulD (eTup (aCons (eC (.int 0)) aNil)) (eOp subD (eC (.int 31)) (eVar 5)))) (aCons (eC .non) (aCons (eC (.str "11")) aNil))))))))) (eOp subD (eVar 3) (eC (.int 9)))))
    sNil)))))
def Q_law_bad_calendar : FM := runD 6 B__law_bad_calendar
def N__law_copy : List Str := ["value", "found", "key", "item"]
def B__law_copy (R : FM) : SF :=
  (sSeq (sIf (tTru (eIs ["list"] (eVar 0))) (sSeq (sRet (eBox (lComp (iData (eVar 0)) (.n 3) tYesF (eCall R (aCons (eVar 3) aNil)) [3])))
    sNil) sNil)
    (sSeq (sIf (tTru (eIs ["tuple"] (eVar 0))) (sSeq (sRet (eB tupleB (hCons (eLst (lComp (iData (eVar 0)) (.n 3) tYesF (eCall R (aCons (eVar 3) aNil)) [3])) hNil)))
    sNil) sNil)
    (sSeq (sSet 1 eDic0)
    (sSeq (sIf (tTru (eIs ["dict"] (eVar 0))) sBad sNil)
    (sSeq (sRet (eIf (tTru (eIs ["dict"] (eVar 0))) (eVar 1) (eVar 0)))
    sNil)))))
def Q_law_copy_ : Nat → FM
  | 0 => runD 4 sBad
  | n + 1 => runD 4 (B__law_copy  (Q_law_copy_ n))
def Q_law_copy : FM := Q_law_copy_ 4
def N__law_is_int : List Str := ["value"]
def B__law_is_int : SF :=
  (sSeq (sRet (eAnd (eIs ["int"] (eVar 0)) (eNot (eIs ["bool"] (eVar 0)))))
    sNil)
def Q_law_is_int : FM := runD 1 B__law_is_int
def N__law_is_calendar : List Str := ["value", "day"]
def B__law_is_calendar : SF :=
  (sSeq (sIf (DL.tOr (tNot (tTru (eIs ["tuple"] (eVar 0)))) (tNot (tVal (eChain leD leD (eC (.int 1)) (eB lenB (hCons (eVar 0) hNil)) (eC (.int 31)))))) (sSeq (sRet (eC (.bl false)))
    sNil) sNil)
    (sSeq (sRet (eAnd (eOp eqD (eLst (lComp (iData (eVar 0)) (.n 1) (DL.tOr (tNot (tTru (eCall Q_law_is_int (aCons (eVar 1) aNil)))) (tVal (eOp notInD (eVar 1) (eLst (lDisp (aCons (eC (.int 0)) (aCons (eC (.int 1)) aNil))))))) (eVar 1) [1])) (eLst (lDisp aNil))) (eOp eqD (eB maxB (hCons (eVar 0) hNil)) (eC (.int 1)))))
    sNil))
def Q_law_is_calendar : FM := runD 2 B__law_is_calendar
def N__law_grown : List Str := ["value", "item"]
def B__law_grown (R : FM) : SF :=
  (sSeq (sIf (tTru (eIs ["list"] (eVar 0))) (sSeq (sX (xMut insD 0 (aCons (eC (.int 0)) (aCons (eC (.str "more")) aNil))))
    sNil) (sSeq (sIf (tTru (eIs ["dict"] (eVar 0))) sBad (sSeq (sIf (tTru (eIs ["tuple"] (eVar 0))) (sSeq (sFor (iData (eVar 0)) (.n 1) (sSeq (sExpr (eCall R (aCons (eVar 1) aNil)))
    sNil) [])
    sNil) sNil)
    sNil))
    sNil))
    (sSeq (sRet (eRepr (eVar 0)))
    sNil))
def Q_law_grown_ : Nat → FM
  | 0 => runD 2 sBad
  | n + 1 => runD 2 (B__law_grown  (Q_law_grown_ n))
def Q_law_grown : FM := Q_law_grown_ 4
def N__law_refused_right : List Str := ["box", "calendar", "by_name", "odd", "turn", "some", "first", "last", "door", "given", "due", "before", "told", "words", "at", "k"]
def B__law_refused_right : SF :=
  (sSeq (sSet 3 (eLst (lDisp (aCons (eUn negD (eC (.int 1))) (aCons (eC .non) (aCons (eC (.bl true)) (aCons (eC (.str "0")) (aCons (eLst (lDisp (aCons (eC (.int 0)) aNil))) (aCons (eTup (aCons (eC (.int 0)) aNil)) (aCons (eC (.bl false)) (aCons (eUn negD (eOp powD (eC (.int 10)) (eC (.int 30)))) aNil)))))))))))
    (sSeq (sFor (iRng (aCons (eC (.int 6)) aNil)) (.n 4) (sSeq (sSet 5 (eIf (tVal (eOp inD (eVar 4) (eLst (lDisp (aCons (eC (.int 0)) (aCons (eC (.int 4)) aNil)))))) (eCall Q_law_bad_calendar (aCons (eVar 0) (aCons (eVar 1) aNil))) (eVar 1)))
    (sSeq (sSet 6 (eIf (tVal (eOp inD (eVar 4) (eLst (lDisp (aCons (eC (.int 1)) (aCons (eC (.int 3)) (aCons (eC (.int 4)) (aCons (eC (.int 5)) aNil)))))))) (eIx (eVar 3) (eCall Q_law_take (aCons (eVar 0) (aCons (eC (.int 8)) aNil)))) (eC (.int 3))))
    (sSeq (sSet 7 (eIf (tVal (eOp inD (eVar 4) (eLst (lDisp (aCons (eC (.int 2)) (aCons (eC (.int 3)) (aCons (eC (.int 4)) aNil))))))) (eIx (eVar 3) (eCall Q_law_take (aCons (eVar 0) (aCons (eC (.int 8)) aNil)))) (eC (.int 5))))
    (sSeq (sFor (iRng (aCons (eC (.int 3)) aNil)) (.n 8) (sSeq (sSet 9 (eLst (lDisp (aCons (eCall Q_law_copy (aCons (eVar 5) aNil)) (aCons (eCall Q_law_copy (aCons (eVar 6) aNil)) (aCons (eCall Q_law_copy (aCons (eVar 7) aNil)) aNil))))))
    (sSeq (sSet 10 (eLst (lDisp (aCons (eCall Q_law_is_calendar (aCons (eVar 5) aNil)) (aCons (eAnd (eCall Q_law_is_int (aCons (eVar 6) aNil)) (eOp geD (eVar 6) (eC (.int 0)))) (aCons (eAnd (eCall Q_law_is_int (aCons (eVar 7) aNil)) (eOp geD (eVar 7) (eC (.int 0)))) aNil))))))
    (sSeq (sSet 11 (eRepr (eVar 9)))
    (sSeq (sSet 12 (eCall Q_law_door (aCons (eVar 8) (aCons (eIx (eVar 9) (eC (.int 0))) (aCons (eIx (eVar 9) (eC (.int 1))) (aCons (eIx (eVar 9) (eC (.int 2))) (aCons (eVar 2) aNil)))))))
    (sSeq (sSet 13 (eLst (lDisp (aCons (eC (.str "calendar")) (aCons (eIx (eLst (lDisp (aCons (eC (.str "start")) (aCons (eC (.str "start")) (aCons (eC (.str "end")) aNil))))) (eVar 8)) (aCons (eIx (eLst (lDisp (aCons (eC (.str "end")) (aCons (eC (.str "duration")) (aCons (eC (.str "duration")) aNil))))) (eVar 8)) aNil))))))
    (sSeq (sSet 14 (eLst (lComp (iRng (aCons (eC (.int 3)) aNil)) (.n 15) (tNot (tTru (eIx (eVar 10) (eVar 15)))) (eVar 15) [15])))
    (sSeq (sIf (DL.tOr (tVal (eOp neD (eRepr (eVar 9)) (eVar 11))) (tVal (eOp neD (eIx (eVar 12) (eC (.int 0))) (eIf (tVal (eOp neD (eVar 14) (eLst (lDisp aNil)))) (eIx (eVar 13) (eIx (eVar 14) (eC (.int 0)))) (eC (.str "told")))))) (sSeq (sRet (eC (.bl false)))
    sNil) sNil)
    (sSeq (sIf (DL.tAnd (tVal (eOp neD (eVar 14) (eLst (lDisp aNil)))) (DL.tOr (tVal (eOp isNotD (eIx (eVar 12) (eC (.int 2))) (eC (.bl true)))) (tVal (eOp neD (eCall Q_law_grown (aCons (eIx (eVar 9) (eIx (eVar 14) (eC (.int 0)))) aNil)) (eRepr (eIx (eVar 12) (eC (.int 1)))))))) (sSeq (sRet (eC (.bl false)))
    sNil) sNil)
    sNil)))))))) [])
    sNil)))) [])
    (sSeq (sRet (eC (.bl true)))
    sNil)))
def Q_law_refused_right : FM := runD 16 B__law_refused_right
def N__law_tests_right : List Str := ["box", "calendar", "many", "some", "value", "before", "due", "turn"]
def B__law_tests_right : SF :=
  (sSeq (sSet 2 (eB lenB (hCons (eVar 1) hNil)))
    (sSeq (sSet 3 (eLst (lDisp (aCons (eVar 1) (aCons (eTup (aCons (eC (.int 1)) aNil)) (aCons (eTup (aCons (eC (.int 0)) aNil)) (aCons (eOp addD (eOp mulD (eTup (aCons (eC (.int 0)) aNil)) (eC (.int 30))) (eTup (aCons (eC (.int 1)) aNil))) (aCons (eOp mulD (eTup (aCons (eC (.int 0)) aNil)) (eC (.int 31))) (aCons (eOp mulD (eTup (aCons (eC (.int 1)) aNil)) (eC (.int 32))) (aCons (eTup (aCons (eC (.bl true)) aNil)) (aCons (eTup aNil) (aCons (eLst (lDisp (aCons (eC (.int 1)) aNil))) (aCons (eC .non) (aCons (eC (.int 1)) (aCons (eC (.str "1")) (aCons (eDic1 (.inl 0) (eC (.int 1))) (aCons (eTup (aCons (eTup (aCons (eC (.int 1)) aNil)) aNil)) (aCons (eTup (aCons (eC (.int 0)) (aCons (eC (.int 2)) aNil))) aNil))))))))))))))))))
    (sSeq (sFor (iData (eOp addD (eOp addD (eVar 3) (eLst (lComp (iRng (aCons (eC (.int 6)) aNil)) (.n 7) tYesF (eCall Q_law_bad_calendar (aCons (eVar 0) (aCons (eVar 1) aNil))) [7]))) (eLst (lDisp (aCons (eUn revA (eVar 1)) (aCons (eOp mulD (eVar 1) (eC (.int 2))) (aCons (eOp addD (eOp mulD (eTup (aCons (eC (.int 0)) aNil)) (eOp subD (eC (.int 32)) (eVar 2))) (eVar 1)) aNil))))))) (.n 4) (sSeq (sPar [5, 6] (aCons (eRepr (eVar 4)) (aCons (eCall Q_law_is_calendar (aCons (eVar 4) aNil)) aNil)))
    (sSeq (sIf (DL.tOr (tNot (tTru (eCall Q_law_same (aCons (eLst (lDisp (aCons (eCall Qis_calendar (aCons (eVar 4) aNil)) (aCons (eCallK Qis_calendar [0] aNil (aCons (eVar 4) aNil)) aNil)))) (aCons (eLst (lDisp (aCons (eVar 6) (aCons (eVar 6) aNil)))) aNil))))) (tVal (eOp neD (eRepr (eVar 4)) (eVar 5)))) (sSeq (sRet (eC (.bl false)))
    sNil) sNil)
    sNil)) [])
    (sSeq (sRet (eC (.bl true)))
    sNil))))
def Q_law_tests_right : FM := runD 8 B__law_tests_right
def N__law_worked : List Str := ["calendar", "start", "end", "rounds", "first", "rest", "k"]
def B__law_worked : SF :=
  (sSeq (sIf (tVal (eOp leD (eVar 2) (eVar 1))) (sSeq (sRet (eC (.int 0)))
    sNil) sNil)
    (sSeq (sSet 3 (eOp fdivD (eOp subD (eVar 2) (eVar 1)) (eB lenB (hCons (eVar 0) hNil))))
    (sSeq (sSet 4 (eOp addD (eVar 1) (eOp mulD (eVar 3) (eB lenB (hCons (eVar 0) hNil)))))
    (sSeq (sSet 5 (eLst (lComp (iRng (aCons (eOp subD (eVar 2) (eVar 4)) aNil)) (.n 6) tYesF (eIx (eVar 0) (eOp modD (eB intB (hCons (eOp addD (eVar 4) (eVar 6)) hNil)) (eB lenB (hCons (eVar 0) hNil)))) [6])))
    (sSeq (sRet (eOp addD (eOp mulD (eVar 3) (eB sumB (hCons (eVar 0) hNil))) (eB sumB (hCons (eVar 5) hNil))))
    sNil)))))
def Q_law_worked : FM := runD 7 B__law_worked
def N__law_done : List Str := ["calendar", "start", "duration", "rounds", "left", "time", "turn"]
def B__law_done : SF :=
  (sSeq (sIf (tVal (eOp eqD (eVar 2) (eC (.int 0)))) (sSeq (sRet (eVar 1))
    sNil) sNil)
    (sSeq (sSet 3 (eOp fdivD (eOp subD (eVar 2) (eC (.int 1))) (eB sumB (hCons (eVar 0) hNil))))
    (sSeq (sPar [4, 5] (aCons (eOp subD (eVar 2) (eOp mulD (eVar 3) (eB sumB (hCons (eVar 0) hNil)))) (aCons (eOp addD (eVar 1) (eOp mulD (eVar 3) (eB lenB (hCons (eVar 0) hNil)))) aNil)))
    (sSeq (sFor (iRng (aCons (eB lenB (hCons (eVar 0) hNil)) aNil)) (.n 6) (sSeq (sIf (tVal (eOp gtD (eVar 4) (eC (.int 0)))) (sSeq (sPar [4, 5] (aCons (eOp subD (eVar 4) (eIx (eVar 0) (eOp modD (eB intB (hCons (eVar 5) hNil)) (eB lenB (hCons (eVar 0) hNil))))) (aCons (eOp addD (eVar 5) (eC (.int 1))) aNil)))
    sNil) sNil)
    sNil) [])
    (sSeq (sRet (eVar 5))
    sNil)))))
def Q_law_done : FM := runD 7 B__law_done
def N__law_begun : List Str := ["calendar", "end", "duration", "rounds", "left", "time", "turn"]
def B__law_begun : SF :=
  (sSeq (sIf (tVal (eOp eqD (eVar 2) (eC (.int 0)))) (sSeq (sRet (eVar 1))
    sNil) sNil)
    (sSeq (sSet 3 (eOp fdivD (eOp subD (eVar 2) (eC (.int 1))) (eB sumB (hCons (eVar 0) hNil))))
    (sSeq (sPar [4, 5] (aCons (eOp subD (eVar 2) (eOp mulD (eVar 3) (eB sumB (hCons (eVar 0) hNil)))) (aCons (eOp subD (eVar 1) (eOp mulD (eVar 3) (eB lenB (hCons (eVar 0) hNil)))) aNil)))
    (sSeq (sFor (iRng (aCons (eB lenB (hCons (eVar 0) hNil)) aNil)) (.n 6) (sSeq (sIf (tVal (eOp gtD (eVar 4) (eC (.int 0)))) (sSeq (sSet 5 (eOp subD (eVar 5) (eC (.int 1))))
    (sSeq (sSet 4 (eOp subD (eVar 4) (eIx (eVar 0) (eOp modD (eB intB (hCons (eVar 5) hNil)) (eB lenB (hCons (eVar 0) hNil))))))
    sNil)) sNil)
    sNil) [])
    (sSeq (sRet (eIf (tVal (eOp geD (eVar 5) (eC (.int 0)))) (eVar 5) (eC .non)))
    sNil)))))
def Q_law_begun : FM := runD 7 B__law_begun
def N__law_due : List Str := ["which", "calendar", "first", "last"]
def B__law_due : SF :=
  (sSeq (sIf (tVal (eOp eqD (eVar 0) (eC (.int 0)))) (sSeq (sRet (eLst (lDisp (aCons (eC (.str "told")) (aCons (eCall Q_law_worked (aCons (eVar 1) (aCons (eVar 2) (aCons (eVar 3) aNil)))) aNil)))))
    sNil) sNil)
    (sSeq (sRet (eLst (lDisp (aCons (eC (.str "told")) (aCons (eIf (tVal (eOp eqD (eVar 0) (eC (.int 1)))) (eCall Q_law_done (aCons (eVar 1) (aCons (eVar 2) (aCons (eVar 3) aNil)))) (eCall Q_law_begun (aCons (eVar 1) (aCons (eVar 2) (aCons (eVar 3) aNil))))) aNil)))))
    sNil))
def Q_law_due : FM := runD 4 B__law_due
def N__law_great_right : List Str := ["box", "calendar", "by_name", "turn", "base", "first", "last", "which", "due"]
def B__law_great_right : SF :=
  (sSeq (sFor (iRng (aCons (eC (.int 8)) aNil)) (.n 3) (sSeq (sSet 4 (eOp mulD (eIx (eLst (lDisp (aCons (eOp powD (eC (.int 10)) (eC (.int 39))) (aCons (eOp mulD (eOp powD (eC (.int 10)) (eC (.int 59))) (eOp powD (eOp powD (eC (.int 10)) (eC (.int 60))) (eC (.int 3)))) (aCons (eC (.int 0)) (aCons (eC (.int 0)) aNil)))))) (eCall Q_law_take (aCons (eVar 0) (aCons (eC (.int 4)) aNil)))) (eOp addD (eC (.int 1)) (eCall Q_law_take (aCons (eVar 0) (aCons (eC (.int 9)) aNil))))))
    (sSeq (sSet 5 (eOp addD (eVar 4) (eCall Q_law_take (aCons (eVar 0) (aCons (eC (.int 70)) aNil)))))
    (sSeq (sSet 6 (eIx (eLst (lDisp (aCons (eCall Q_law_take (aCons (eVar 0) (aCons (eC (.int 90)) aNil))) (aCons (eOp addD (eOp powD (eC (.int 10)) (eC (.int 38))) (eCall Q_law_take (aCons (eVar 0) (aCons (eC (.int 99)) aNil)))) (aCons (eC (.int 0)) (aCons (eOp fdivD (eVar 5) (eC (.int 2))) (aCons (eOp mulD (eVar 5) (eC (.int 2))) (aCons (eB maxB (hCons (eC (.int 0)) (hCons (eOp subD (eOp subD (eVar 5) (eC (.int 1))) (eCall Q_law_take (aCons (eVar 0) (aCons (eC (.int 40)) aNil)))) hNil))) aNil)))))))) (eCall Q_law_take (aCons (eVar 0) (aCons (eC (.int 6)) aNil)))))
    (sSeq (sFor (iRng (aCons (eC (.int 3)) aNil)) (.n 7) (sSeq (sSet 8 (eCall Q_law_due (aCons (eVar 7) (aCons (eVar 1) (aCons (eVar 5) (aCons (eVar 6) aNil))))))
    (sSeq (sIf (tNot (tTru (eCall Q_law_same (aCons (eCall Q_law_door (aCons (eVar 7) (aCons (eVar 1) (aCons (eVar 5) (aCons (eVar 6) (aCons (eVar 2) aNil)))))) (aCons (eVar 8) aNil))))) (sSeq (sRet (eC (.bl false)))
    sNil) sNil)
    (sSeq (sIf (tNot (tTru (eCall Q_law_same (aCons (eCall Q_law_door (aCons (eVar 7) (aCons (eVar 1) (aCons (eVar 5) (aCons (eVar 6) (aCons (eNot (eVar 2)) aNil)))))) (aCons (eVar 8) aNil))))) (sSeq (sRet (eC (.bl false)))
    sNil) sNil)
    sNil))) [])
    sNil)))) [])
    (sSeq (sRet (eC (.bl true)))
    sNil))
def Q_law_great_right : FM := runD 9 B__law_great_right
def N_law : List Str := ["script", "kept", "k", "box", "by_name", "order", "calendar", "first", "last", "which"]
def B_law : SF :=
  (sSeq (sOwn 1 (lDisp aNil))
    (sSeq (sFor (iRng (aCons (eB maxB (hCons (eC (.int 2)) (hCons (eB minB (hCons (eC (.int 3)) (hCons (eB lenB (hCons (eVar 0) hNil)) hNil))) hNil))) aNil)) (.n 2) (sSeq (sSet 3 (eCall Q_law_box (aCons (eCall Q_law_cell (aCons (eVar 0) (aCons (eVar 2) aNil))) aNil)))
    (sSeq (sPar [4, 5, 6] (aCons (eOp eqD (eCall Q_law_take (aCons (eVar 3) (aCons (eC (.int 2)) aNil))) (eC (.int 1))) (aCons (eCall Q_law_take (aCons (eVar 3) (aCons (eC (.int 2)) aNil))) (aCons (eCall Q_law_calendar (aCons (eVar 3) aNil)) aNil))))
    (sSeq (sIf (DL.tAnd (tVal (eOp eqD (eVar 5) (eC (.int 0)))) (tNot (tTru (eCall Q_law_refused_right (aCons (eVar 3) (aCons (eVar 6) (aCons (eVar 4) aNil))))))) (sSeq (sRet (eC (.bl false)))
    sNil) sNil)
    (sSeq (sIf (DL.tOr (tNot (tTru (eCall Q_law_tests_right (aCons (eVar 3) (aCons (eVar 6) aNil))))) (tNot (tTru (eCall Q_law_great_right (aCons (eVar 3) (aCons (eVar 6) (aCons (eVar 4) aNil))))))) (sSeq (sRet (eC (.bl false)))
    sNil) sNil)
    (sSeq (sIf (tNot (tTru (eCall Q_law_counted_right (aCons (eVar 3) (aCons (eVar 6) (aCons (eIf (tVal (eOp gtD (eVar 2) (eC (.int 0)))) (eCall Q_law_take (aCons (eVar 3) (aCons (eC (.int 50)) aNil))) (eCall Q_law_take (aCons (eVar 3) (aCons (eC (.int 4)) aNil)))) (aCons (eVar 4) aNil))))))) (sSeq (sRet (eC (.bl false)))
    sNil) sNil)
    (sSeq (sIf (DL.tAnd (tVal (eOp eqD (eVar 5) (eC (.int 1)))) (tNot (tTru (eCall Q_law_refused_right (aCons (eVar 3) (aCons (eVar 6) (aCons (eVar 4) aNil))))))) (sSeq (sRet (eC (.bl false)))
    sNil) sNil)
    (sSeq (sX (xMut appD 1 (aCons (eLst (lDisp (aCons (eVar 6) (aCons (eCall Q_law_take (aCons (eVar 3) (aCons (eC (.int 40)) aNil))) (aCons (eCall Q_law_take (aCons (eVar 3) (aCons (eC (.int 12)) aNil))) aNil))))) aNil)))
    sNil))))))) [])
    (sSeq (sFrz 1) (sSeq (sFor (iData (eVar 1)) (.t [(.n 6), (.n 7), (.n 8)]) (sSeq (sFor (iRng (aCons (eC (.int 3)) aNil)) (.n 9) (sSeq (sIf (tNot (tTru (eCall Q_law_same (aCons (eCall Q_law_door (aCons (eVar 9) (aCons (eVar 6) (aCons (eVar 7) (aCons (eVar 8) (aCons (eOp eqD (eVar 9) (eC (.int 1))) aNil)))))) (aCons (eCall Q_law_due (aCons (eVar 9) (aCons (eVar 6) (aCons (eVar 7) (aCons (eVar 8) aNil))))) aNil))))) (sSeq (sRet (eC (.bl false)))
    sNil) sNil)
    sNil) [])
    sNil) [])
    (sSeq (sRet (eC (.bl true)))
    sNil)))))
def Qlaw : FM := runD 10 B_law
end K43

namespace K43
open PySem L2 PySem.Spec PyProof.Rows DL
def top (i : Nat) : Stmt := PySem.Challenge.pw_planwide_k43_working_days_by_counting.main.body.getD i (.Pass ⟨0, 0, 0, 0⟩)
abbrev st__law_box : Stmt := top 22
theorem sc__law_box : FnScope N__law_box ["great"] (defScope st__law_box) := ⟨rfl, rfl, rfl, by decide +kernel, rfl, by decide +kernel, by decide +kernel⟩
abbrev st__law_cell : Stmt := top 21
theorem sc__law_cell : FnScope N__law_cell ["script", "k"] (defScope st__law_cell) := ⟨rfl, rfl, rfl, by decide +kernel, rfl, by decide +kernel, by decide +kernel⟩
abbrev st__law_take : Stmt := top 23
theorem sc__law_take : FnScope N__law_take ["box", "many"] (defScope st__law_take) := ⟨rfl, rfl, rfl, by decide +kernel, rfl, by decide +kernel, by decide +kernel⟩
abbrev st__law_calendar : Stmt := top 29
theorem sc__law_calendar : FnScope N__law_calendar ["box"] (defScope st__law_calendar) := ⟨rfl, rfl, rfl, by decide +kernel, rfl, by decide +kernel, by decide +kernel⟩
abbrev st__law_same : Stmt := top 25
theorem sc__law_same : FnScope N__law_same ["given", "due"] (defScope st__law_same) := ⟨rfl, rfl, rfl, by decide +kernel, rfl, by decide +kernel, by decide +kernel⟩
abbrev st_is_integer : Stmt := top 7
theorem sc_is_integer : FnScope N_is_integer ["value"] (defScope st_is_integer) := ⟨rfl, rfl, rfl, by decide +kernel, rfl, by decide +kernel, by decide +kernel⟩
abbrev st_is_calendar : Stmt := top 11
theorem sc_is_calendar : FnScope N_is_calendar ["value"] (defScope st_is_calendar) := ⟨rfl, rfl, rfl, by decide +kernel, rfl, by decide +kernel, by decide +kernel⟩
abbrev st_check_calendar : Stmt := top 12
theorem sc_check_calendar : FnScope N_check_calendar ["calendar"] (defScope st_check_calendar) := ⟨rfl, rfl, rfl, by decide +kernel, rfl, by decide +kernel, by decide +kernel⟩
abbrev st_is_count : Stmt := top 8
theorem sc_is_count : FnScope N_is_count ["value"] (defScope st_is_count) := ⟨rfl, rfl, rfl, by decide +kernel, rfl, by decide +kernel, by decide +kernel⟩
abbrev st_days_until : Stmt := top 13
theorem sc_days_until : FnScope N_days_until ["calendar", "time"] (defScope st_days_until) := ⟨rfl, rfl, rfl, by decide +kernel, rfl, by decide +kernel, by decide +kernel⟩
abbrev st_time_of_day : Stmt := top 14
theorem sc_time_of_day : FnScope N_time_of_day ["calendar", "number"] (defScope st_time_of_day) := ⟨rfl, rfl, rfl, by decide +kernel, rfl, by decide +kernel, by decide +kernel⟩
abbrev st_begun_at : Stmt := top 18
theorem sc_begun_at : FnScope N_begun_at ["calendar", "end", "duration"] (defScope st_begun_at) := ⟨rfl, rfl, rfl, by decide +kernel, rfl, by decide +kernel, by decide +kernel⟩
abbrev st_begun : Stmt := top 19
theorem sc_begun : FnScope N_begun ["calendar", "end", "duration"] (defScope st_begun) := ⟨rfl, rfl, rfl, by decide +kernel, rfl, by decide +kernel, by decide +kernel⟩
abbrev st_worked : Stmt := top 15
theorem sc_worked : FnScope N_worked ["calendar", "start", "end"] (defScope st_worked) := ⟨rfl, rfl, rfl, by decide +kernel, rfl, by decide +kernel, by decide +kernel⟩
abbrev st_done_at : Stmt := top 16
theorem sc_done_at : FnScope N_done_at ["calendar", "start", "duration"] (defScope st_done_at) := ⟨rfl, rfl, rfl, by decide +kernel, rfl, by decide +kernel, by decide +kernel⟩
abbrev st_done : Stmt := top 17
theorem sc_done : FnScope N_done ["calendar", "start", "duration"] (defScope st_done) := ⟨rfl, rfl, rfl, by decide +kernel, rfl, by decide +kernel, by decide +kernel⟩
abbrev st__law_door : Stmt := top 34
theorem sc__law_door : FnScope N__law_door ["which", "calendar", "first", "last", "by_name"] (defScope st__law_door) := ⟨rfl, rfl, rfl, by decide +kernel, rfl, by decide +kernel, by decide +kernel⟩
abbrev st__law_counted_right : Stmt := top 36
theorem sc__law_counted_right : FnScope N__law_counted_right ["box", "calendar", "first", "by_name"] (defScope st__law_counted_right) := ⟨rfl, rfl, rfl, by decide +kernel, rfl, by decide +kernel, by decide +kernel⟩
abbrev st__law_bad_calendar : Stmt := top 38
theorem sc__law_bad_calendar : FnScope N__law_bad_calendar ["box", "calendar"] (defScope st__law_bad_calendar) := ⟨rfl, rfl, rfl, by decide +kernel, rfl, by decide +kernel, by decide +kernel⟩
abbrev st__law_copy : Stmt := top 26
theorem sc__law_copy : FnScope N__law_copy ["value"] (defScope st__law_copy) := ⟨rfl, rfl, rfl, by decide +kernel, rfl, by decide +kernel, by decide +kernel⟩
abbrev st__law_is_int : Stmt := top 28
theorem sc__law_is_int : FnScope N__law_is_int ["value"] (defScope st__law_is_int) := ⟨rfl, rfl, rfl, by decide +kernel, rfl, by decide +kernel, by decide +kernel⟩
abbrev st__law_is_calendar : Stmt := top 30
theorem sc__law_is_calendar : FnScope N__law_is_calendar ["value"] (defScope st__law_is_calendar) := ⟨rfl, rfl, rfl, by decide +kernel, rfl, by decide +kernel, by decide +kernel⟩
abbrev st__law_grown : Stmt := top 27
theorem sc__law_grown : FnScope N__law_grown ["value"] (defScope st__law_grown) := ⟨rfl, rfl, rfl, by decide +kernel, rfl, by decide +kernel, by decide +kernel⟩
abbrev st__law_refused_right : Stmt := top 39
theorem sc__law_refused_right : FnScope N__law_refused_right ["box", "calendar", "by_name"] (defScope st__law_refused_right) := ⟨rfl, rfl, rfl, by decide +kernel, rfl, by decide +kernel, by decide +kernel⟩
abbrev st__law_tests_right : Stmt := top 40
theorem sc__law_tests_right : FnScope N__law_tests_right ["box", "calendar"] (defScope st__law_tests_right) := ⟨rfl, rfl, rfl, by decide +kernel, rfl, by decide +kernel, by decide +kernel⟩
abbrev st__law_worked : Stmt := top 31
theorem sc__law_worked : FnScope N__law_worked ["calendar", "start", "end"] (defScope st__law_worked) := ⟨rfl, rfl, rfl, by decide +kernel, rfl, by decide +kernel, by decide +kernel⟩
abbrev st__law_done : Stmt := top 32
theorem sc__law_done : FnScope N__law_done ["calendar", "start", "duration"] (defScope st__law_done) := ⟨rfl, rfl, rfl, by decide +kernel, rfl, by decide +kernel, by decide +kernel⟩
abbrev st__law_begun : Stmt := top 33
theorem sc__law_begun : FnScope N__law_begun ["calendar", "end", "duration"] (defScope st__law_begun) := ⟨rfl, rfl, rfl, by decide +kernel, rfl, by decide +kernel, by decide +kernel⟩
abbrev st__law_due : Stmt := top 35
theorem sc__law_due : FnScope N__law_due ["which", "calendar", "first", "last"] (defScope st__law_due) := ⟨rfl, rfl, rfl, by decide +kernel, rfl, by decide +kernel, by decide +kernel⟩
abbrev st__law_great_right : Stmt := top 37
theorem sc__law_great_right : FnScope N__law_great_right ["box", "calendar", "by_name"] (defScope st__law_great_right) := ⟨rfl, rfl, rfl, by decide +kernel, rfl, by decide +kernel, by decide +kernel⟩
abbrev st_law : Stmt := top 41
theorem sc_law : FnScope N_law ["script"] (defScope st_law) := ⟨rfl, rfl, rfl, by decide +kernel, rfl, by decide +kernel, by decide +kernel⟩
structure Txt (T : DL.Tab) where
  b_abs : T.mg "abs" = none
  b_all : T.mg "all" = none
  b_bool : T.mg "bool" = none
  b_dict : T.mg "dict" = none
  b_enumerate : T.mg "enumerate" = none
  b_int : T.mg "int" = none
  b_isinstance : T.mg "isinstance" = none
  b_len : T.mg "len" = none
  b_list : T.mg "list" = none
  b_max : T.mg "max" = none
  b_min : T.mg "min" = none
  b_range : T.mg "range" = none
  b_repr : T.mg "repr" = none
  b_str : T.mg "str" = none
  b_sum : T.mg "sum" = none
  b_tuple : T.mg "tuple" = none
  c_MOST_DAYS : Gd T "MOST_DAYS" c_MOST_DAYS
  ec_InvalidCalendars : EC T "InvalidCalendars" "InvalidCalendars"
  ek_InvalidCalendars : ec_InvalidCalendars.k = 1
  ec_InvalidDuration : EC T "InvalidDuration" "InvalidDuration"
  ek_InvalidDuration : ec_InvalidDuration.k = 1
  ec_InvalidEnd : EC T "InvalidEnd" "InvalidEnd"
  ek_InvalidEnd : ec_InvalidEnd.k = 1
  ec_InvalidStart : EC T "InvalidStart" "InvalidStart"
  ek_InvalidStart : ec_InvalidStart.k = 1
  a_InvalidCalendars : Addr
  m_InvalidCalendars : T.mg "InvalidCalendars" = some (.ref a_InvalidCalendars)
  ex_InvalidCalendars : ∀ c C, T.cls c = some C → PySem.W.exmOne T.K (.ref C) (.ref a_InvalidCalendars) = some (subX c "InvalidCalendars")
  a_InvalidDuration : Addr
  m_InvalidDuration : T.mg "InvalidDuration" = some (.ref a_InvalidDuration)
  ex_InvalidDuration : ∀ c C, T.cls c = some C → PySem.W.exmOne T.K (.ref C) (.ref a_InvalidDuration) = some (subX c "InvalidDuration")
  a_InvalidEnd : Addr
  m_InvalidEnd : T.mg "InvalidEnd" = some (.ref a_InvalidEnd)
  ex_InvalidEnd : ∀ c C, T.cls c = some C → PySem.W.exmOne T.K (.ref C) (.ref a_InvalidEnd) = some (subX c "InvalidEnd")
  a_InvalidStart : Addr
  m_InvalidStart : T.mg "InvalidStart" = some (.ref a_InvalidStart)
  ex_InvalidStart : ∀ c C, T.cls c = some C → PySem.W.exmOne T.K (.ref C) (.ref a_InvalidStart) = some (subX c "InvalidStart")
  a_PlanError : Addr
  m_PlanError : T.mg "PlanError" = some (.ref a_PlanError)
  is_PlanError : ∀ c C, T.cls c = some C → ExcC T.K C ∧ PySem.W.kitOne T.K (.ref C) (.ref a_PlanError) = some (subX c "PlanError")
  xf_given : ∀ c, fld_given c = true → ∃ C, T.cls c = some C ∧ T.att c = some "given" ∧ XfC T.K C ∧ PySem.W.findIn T.K (.ref C) "given" = some none
section
variable {T : DL.Tab} (G : Txt T)
include G
theorem d__law_box {f cdv A outer s H E W n0 hr hgd} : MSs (jOf T "_law_box" st__law_box f cdv N__law_box sc__law_box.nd 0 A outer s H E W n0 hr hgd) (defBody st__law_box) B__law_box :=
  (ms_cons (ms_ret (me_box (ml_disp (ma_cons (me_b cb_abs rfl G.b_abs rfl (mh_cons (me_var 0) mh_nil)) (ma_cons (me_cmp od_ge (me_b cb_abs rfl G.b_abs rfl (mh_cons (me_var 0) mh_nil)) (me_op od_pow me_int me_int) (nomark _)) (ma_cons (me_op od_mod (me_ty cb_int rfl G.b_int rfl (mh_cons (me_b cb_abs rfl G.b_abs rfl (mh_cons (me_var 0) mh_nil)) mh_nil)) me_int) (ma_cons me_int ma_nil)))))))
    ms_nil)
theorem d__law_cell {f cdv A outer s H E W n0 hr hgd} : MSs (jOf T "_law_cell" st__law_cell f cdv N__law_cell sc__law_cell.nd 0 A outer s H E W n0 hr hgd) (defBody st__law_cell) B__law_cell :=
  (ms_cons (ms_ret (me_if (mt_cmp od_lt (me_var 1) (me_b cb_len rfl G.b_len rfl (mh_cons (me_var 0) mh_nil)) (nomark _)) (me_ix (me_var 0) (me_var 1)) (me_op od_add (me_op od_mul me_int (me_var 1)) (me_op od_mod (me_ty cb_int rfl G.b_int rfl (mh_cons (me_b (cb_sum rfl) rfl G.b_sum rfl (mh_cons (me_sl (me_var 0) mo_no (mo_so me_int)) mh_nil)) mh_nil)) me_int))))
    ms_nil)
theorem d__law_take {f cdv A outer s H E W n0 hr hgd} : MSs (jOf T "_law_take" st__law_take f cdv N__law_take sc__law_take.nd 0 A outer s H E W n0 hr hgd) (defBody st__law_take) B__law_take :=
  (ms_cons (ms_if (mt_w (mw_and (mt_tru (me_ix (me_var 0) me_int)) (mw_and1 (mt_cmp od_gt (me_ix (me_var 0) me_int) me_int (nomark _))))) (ms_cons (ms_set 2 (me_op od_mod (me_ty cb_int rfl G.b_int rfl (mh_cons (me_ix (me_var 0) me_int) mh_nil)) (me_var 1)))
    (ms_cons (ms_setIx 0 (me_op od_fdiv (me_ix (me_var 0) me_int) (me_var 1)) me_int)
    (ms_cons (ms_ret (me_var 2))
    ms_nil))) ms_nil)
    (ms_cons (ms_setIx 0 (me_op od_add (me_ix (me_var 0) me_int) me_int) me_int)
    (ms_cons (ms_set 3 (me_op od_mod (me_ty cb_int rfl G.b_int rfl (mh_cons (me_op od_pow (me_op od_add (me_op od_add (me_ix (me_var 0) me_int) (me_op od_mul me_int (me_ix (me_var 0) me_int))) me_int) me_int) mh_nil)) me_int))
    (ms_cons (ms_ret (me_op od_mod (me_ty cb_int rfl G.b_int rfl (mh_cons (me_op od_fdiv (me_op od_mod (me_ty cb_int rfl G.b_int rfl (mh_cons (me_op od_pow (me_op od_add (me_op od_mul (me_var 3) me_int) (me_op od_mul me_int (me_ix (me_var 0) me_int))) me_int) mh_nil)) me_int) me_int) mh_nil)) (me_var 1)))
    ms_nil))))
theorem d__law_calendar (F__law_take : Fn T 1 "_law_take" ["box", "many"] Q_law_take) {f cdv A outer s H E W n0 hr hgd} : MSs (jOf T "_law_calendar" st__law_calendar f cdv N__law_calendar sc__law_calendar.nd 1 A outer s H E W n0 hr hgd) (defBody st__law_calendar) B__law_calendar :=
  (ms_cons (ms_par 1 2 rfl (ma_cons (me_ix (me_frz (ml_disp (ma_cons me_int (ma_cons (me_op od_add me_int (me_call F__law_take rfl (Nat.le_of_ble_eq_true rfl) rfl (ma_cons (me_var 0) (ma_cons me_int ma_nil)))) (ma_cons me_int (ma_cons (me_op od_add me_int (me_call F__law_take rfl (Nat.le_of_ble_eq_true rfl) rfl (ma_cons (me_var 0) (ma_cons me_int ma_nil)))) ma_nil)))))) (me_call F__law_take rfl (Nat.le_of_ble_eq_true rfl) rfl (ma_cons (me_var 0) (ma_cons me_int ma_nil)))) (ma_cons (me_call F__law_take rfl (Nat.le_of_ble_eq_true rfl) rfl (ma_cons (me_var 0) (ma_cons me_int ma_nil))) ma_nil)))
    (ms_cons (ms_setLc 3 (own := [("day", 5)]) rfl (mi_range1 rfl G.b_range (ma_cons (me_var 1) ma_nil)) (show BlkOk N__law_calendar (defScope st__law_calendar) _ [("day", 5)] from ⟨rfl, by decide +kernel, by decide +kernel, by decide +kernel, by decide +kernel⟩) (fun _ _ _ _ _ => (mp_name 5)) (fun _ _ _ _ _ => mts_nil) (fun _ _ _ _ _ => (me_call F__law_take rfl (Nat.le_of_ble_eq_true rfl) rfl (ma_cons (me_var 0) (ma_cons me_int ma_nil)))))
    (ms_cons (ms_if (mt_cmp (od_eq rfl) (me_var 2) me_int (nomark _)) (ms_cons (ms_set 3 (me_op od_mul (me_frz (ml_disp (ma_cons me_int ma_nil))) (me_var 1)))
    ms_nil) ms_nil)
    (ms_cons (ms_if (mt_w (mw_or (mt_cmp (od_eq rfl) (me_var 2) me_int (nomark _)) (mw_or1 (mt_cmp (od_eq rfl) (me_b (cb_max rfl) rfl G.b_max rfl (mh_cons (me_var 3) mh_nil)) me_int (nomark _))))) (ms_cons (ms_set 4 (me_ix (me_frz (ml_disp (ma_cons me_int (ma_cons (me_op od_sub (me_var 1) me_int) (ma_cons (me_call F__law_take rfl (Nat.le_of_ble_eq_true rfl) rfl (ma_cons (me_var 0) (ma_cons (me_var 1) ma_nil))) ma_nil))))) (me_call F__law_take rfl (Nat.le_of_ble_eq_true rfl) rfl (ma_cons (me_var 0) (ma_cons me_int ma_nil)))))
    (ms_cons (ms_setLc 3 (own := [("day", 5)]) rfl (mi_range1 rfl G.b_range (ma_cons (me_var 1) ma_nil)) (show BlkOk N__law_calendar (defScope st__law_calendar) _ [("day", 5)] from ⟨rfl, by decide +kernel, by decide +kernel, by decide +kernel, by decide +kernel⟩) (fun _ _ _ _ _ => (mp_name 5)) (fun _ _ _ _ _ => mts_nil) (fun _ _ _ _ _ => (me_if (mt_cmp (od_eq rfl) (me_var 5) (me_var 4) (nomark _)) me_int me_int)))
    ms_nil)) ms_nil)
    (ms_cons (ms_ret (me_ty cb_tuple rfl G.b_tuple rfl (mh_cons (me_var 3) mh_nil)))
    ms_nil)))))
theorem d__law_same {k : Nat} {R : FM} (F__law_same : Fn T k "_law_same" ["given", "due"] R) (hk : 0 ≤ k) {f cdv A outer s H E W n0 hr hgd} : MSs (jOf T "_law_same" st__law_same f cdv N__law_same sc__law_same.nd k A outer s H E W n0 hr hgd) (defBody st__law_same) (B__law_same  R) :=
  (ms_cons (ms_if (mt_w (mw_or (mt_cmp od_is (me_var 1) me_non (nomark _)) (mw_or1 (mt_tru (me_is "bool" (me_var 1) rfl G.b_isinstance rfl rfl G.b_bool rfl))))) (ms_cons (ms_ret (me_if (mt_cmp od_is (me_var 1) me_non (nomark _)) (me_cmp od_is (me_var 0) me_non (nomark _)) (me_and (me_is "bool" (me_var 0) rfl G.b_isinstance rfl rfl G.b_bool rfl) (me_one (me_cmp (od_eq rfl) (me_cmp od_is (me_var 0) me_bl (nomark _)) (me_cmp od_is (me_var 1) me_bl (nomark _)) (nomark _))))))
    ms_nil) ms_nil)
    (ms_cons (ms_if (mt_tru (me_is "int" (me_var 1) rfl G.b_isinstance rfl rfl G.b_int rfl)) (ms_cons (ms_ret (me_and (me_is "int" (me_var 0) rfl G.b_isinstance rfl rfl G.b_int rfl) (me_and (me_not (me_is "bool" (me_var 0) rfl G.b_isinstance rfl rfl G.b_bool rfl)) (me_one (me_cmp (od_eq rfl) (me_op od_sub (me_ty cb_int rfl G.b_int rfl (mh_cons (me_var 0) mh_nil)) (me_var 1)) me_int (nomark _))))))
    ms_nil) ms_nil)
    (ms_cons (ms_if (mt_tru (me_is "str" (me_var 1) rfl G.b_isinstance rfl rfl G.b_str rfl)) (ms_cons (ms_ret (me_and (me_is "str" (me_var 0) rfl G.b_isinstance rfl rfl G.b_str rfl) (me_and (me_cmp (od_eq rfl) (me_b cb_len rfl G.b_len rfl (mh_cons (me_var 0) mh_nil)) (me_b cb_len rfl G.b_len rfl (mh_cons (me_var 1) mh_nil)) (nomark _)) (me_one (me_cmp (od_eq rfl) (me_frz (ml_comp (own := [("k", 2)]) rfl (mi_range1 rfl G.b_range (ma_cons (me_b cb_len rfl G.b_len rfl (mh_cons (me_var 1) mh_nil)) ma_nil)) (show BlkOk N__law_same (defScope st__law_same) _ [("k", 2)] from ⟨rfl, by decide +kernel, by decide +kernel, by decide +kernel, by decide +kernel⟩) (fun _ _ _ _ _ => (mp_name 2)) (fun _ _ _ _ _ => (mts_one (mt_cmp (od_ne rfl) (me_sl (me_var 0) (mo_so (me_var 2)) (mo_so (me_op od_add (me_var 2) me_int))) (me_ix (me_var 1) (me_var 2)) (nomark _)))) (fun _ _ _ _ _ => (me_var 2)))) (me_frz (ml_disp ma_nil)) (nomark _))))))
    ms_nil) ms_nil)
    (ms_cons (ms_if (mt_w (mw_or (mt_cmp (od_ne rfl) (me_is "list" (me_var 0) rfl G.b_isinstance rfl rfl G.b_list rfl) (me_is "list" (me_var 1) rfl G.b_isinstance rfl rfl G.b_list rfl) (nomark _)) (mw_or1 (mt_cmp (od_ne rfl) (me_is "tuple" (me_var 0) rfl G.b_isinstance rfl rfl G.b_tuple rfl) (me_is "tuple" (me_var 1) rfl G.b_isinstance rfl rfl G.b_tuple rfl) (nomark _))))) (ms_cons (ms_ret me_bl)
    ms_nil) ms_nil)
    (ms_cons (ms_ret (me_and (me_cmp (od_eq rfl) (me_b cb_len rfl G.b_len rfl (mh_cons (me_var 0) mh_nil)) (me_b cb_len rfl G.b_len rfl (mh_cons (me_var 1) mh_nil)) (nomark _)) (me_one (me_cmp (od_eq rfl) (me_frz (ml_comp (own := [("k", 2)]) rfl (mi_range1 rfl G.b_range (ma_cons (me_b cb_len rfl G.b_len rfl (mh_cons (me_var 1) mh_nil)) ma_nil)) (show BlkOk N__law_same (defScope st__law_same) _ [("k", 2)] from ⟨rfl, by decide +kernel, by decide +kernel, by decide +kernel, by decide +kernel⟩) (fun _ _ _ _ _ => (mp_name 2)) (fun _ _ _ _ _ => (mts_one (mt_not (mt_tru (me_call F__law_same rfl (Nat.le_refl _) rfl (ma_cons (me_ix (me_var 0) (me_var 2)) (ma_cons (me_ix (me_var 1) (me_var 2)) ma_nil))))))) (fun _ _ _ _ _ => (me_var 2)))) (me_frz (ml_disp ma_nil)) (nomark _)))))
    ms_nil)))))
theorem d_is_integer {f cdv A outer s H E W n0 hr hgd} : MSs (jOf T "is_integer" st_is_integer f cdv N_is_integer sc_is_integer.nd 0 A outer s H E W n0 hr hgd) (defBody st_is_integer) B_is_integer :=
  (ms_cons (ms_ret (me_and (me_is "int" (me_var 0) rfl G.b_isinstance rfl rfl G.b_int rfl) (me_one (me_not (me_is "bool" (me_var 0) rfl G.b_isinstance rfl rfl G.b_bool rfl)))))
    ms_nil)
theorem d_is_calendar (F_is_integer : Fn T 1 "is_integer" ["value"] Qis_integer) {f cdv A outer s H E W n0 hr hgd} : MSs (jOf T "is_calendar" st_is_calendar f cdv N_is_calendar sc_is_calendar.nd 1 A outer s H E W n0 hr hgd) (defBody st_is_calendar) B_is_calendar :=
  (ms_cons (ms_if (mt_w (mw_or (mt_not (mt_tru (me_is "tuple" (me_var 0) rfl G.b_isinstance rfl rfl G.b_tuple rfl))) (mw_or1 (mt_not (mt_chain od_le od_le me_int (me_b cb_len rfl G.b_len rfl (mh_cons (me_var 0) mh_nil)) (me_globD G.c_MOST_DAYS rfl)))))) (ms_cons (ms_ret me_bl)
    ms_nil) ms_nil)
    (ms_cons (ms_ret (me_and (me_b (cb_all rfl) rfl G.b_all rfl (mh_cons (me_frz (ml_comp (own := [("item", 1)]) rfl (mi_data (me_var 0)) (show BlkOk N_is_calendar (defScope st_is_calendar) _ [("item", 1)] from ⟨rfl, by decide +kernel, by decide +kernel, by decide +kernel, by decide +kernel⟩) (fun _ _ _ _ _ => (mp_name 1)) (fun _ _ _ _ _ => mts_nil) (fun _ _ _ _ _ => (me_and (me_call F_is_integer rfl (Nat.le_of_ble_eq_true rfl) rfl (ma_cons (me_var 1) ma_nil)) (me_one (me_cmp (od_in rfl) (me_var 1) (me_tup (ma_cons me_int (ma_cons me_int ma_nil))) rfl)))))) mh_nil)) (me_one (me_cmp (od_in rfl) me_int (me_var 0) rfl))))
    ms_nil))
theorem d_check_calendar (F_is_calendar : Fn T 2 "is_calendar" ["value"] Qis_calendar) {f cdv A outer s H E W n0 hr hgd} : MSs (jOf T "check_calendar" st_check_calendar f cdv N_check_calendar sc_check_calendar.nd 2 A outer s H E W n0 hr hgd) (defBody st_check_calendar) B_check_calendar :=
  (ms_cons (ms_if (mt_not (mt_tru (me_call F_is_calendar rfl (Nat.le_of_ble_eq_true rfl) rfl (ma_cons (me_var 0) ma_nil)))) (ms_cons (ms_raise (G.ec_InvalidCalendars) (me_var 0) rfl (Nat.le_trans (Nat.le_of_eq (congrArg (· + 1) G.ek_InvalidCalendars)) (Nat.le_of_ble_eq_true rfl)) rfl)
    ms_nil) ms_nil)
    ms_nil)
theorem d_is_count (F_is_integer : Fn T 1 "is_integer" ["value"] Qis_integer) {f cdv A outer s H E W n0 hr hgd} : MSs (jOf T "is_count" st_is_count f cdv N_is_count sc_is_count.nd 1 A outer s H E W n0 hr hgd) (defBody st_is_count) B_is_count :=
  (ms_cons (ms_ret (me_and (me_call F_is_integer rfl (Nat.le_of_ble_eq_true rfl) rfl (ma_cons (me_var 0) ma_nil)) (me_one (me_cmp od_ge (me_var 0) me_int (nomark _)))))
    ms_nil)
theorem d_days_until {f cdv A outer s H E W n0 hr hgd} : MSs (jOf T "days_until" st_days_until f cdv N_days_until sc_days_until.nd 0 A outer s H E W n0 hr hgd) (defBody st_days_until) B_days_until :=
  (ms_cons (ms_set 2 (me_b cb_len rfl G.b_len rfl (mh_cons (me_var 0) mh_nil)))
    (ms_cons (ms_ret (me_op od_add (me_op od_mul (me_op od_fdiv (me_var 1) (me_var 2)) (me_b (cb_sum rfl) rfl G.b_sum rfl (mh_cons (me_var 0) mh_nil))) (me_b (cb_sum rfl) rfl G.b_sum rfl (mh_cons (me_sl (me_var 0) mo_no (mo_so (me_op od_mod (me_var 1) (me_var 2)))) mh_nil))))
    ms_nil))
theorem d_time_of_day {f cdv A outer s H E W n0 hr hgd} : MSs (jOf T "time_of_day" st_time_of_day f cdv N_time_of_day sc_time_of_day.nd 0 A outer s H E W n0 hr hgd) (defBody st_time_of_day) B_time_of_day :=
  (ms_cons (ms_setLc 2 (own := [("day", 3), ("item", 4)]) rfl (mi_enum rfl G.b_enumerate (ma_cons (me_var 0) ma_nil)) (show BlkOk N_time_of_day (defScope st_time_of_day) _ [("day", 3), ("item", 4)] from ⟨rfl, by decide +kernel, by decide +kernel, by decide +kernel, by decide +kernel⟩) (fun _ _ _ _ _ => (mp_tup (mps_cons (mp_name 3) (mps_cons (mp_name 4) mps_nil)) rfl)) (fun _ _ _ _ _ => (mts_one (mt_cmp (od_eq rfl) (me_var 4) me_int (nomark _)))) (fun _ _ _ _ _ => (me_var 3)))
    (ms_cons (ms_ret (me_op od_add (me_op od_mul (me_op od_fdiv (me_var 1) (me_b cb_len rfl G.b_len rfl (mh_cons (me_var 2) mh_nil))) (me_b cb_len rfl G.b_len rfl (mh_cons (me_var 0) mh_nil))) (me_ix (me_var 2) (me_op od_mod (me_var 1) (me_b cb_len rfl G.b_len rfl (mh_cons (me_var 2) mh_nil))))))
    ms_nil))
theorem d_begun_at (F_days_until : Fn T 1 "days_until" ["calendar", "time"] Qdays_until) (F_time_of_day : Fn T 1 "time_of_day" ["calendar", "number"] Qtime_of_day) {f cdv A outer s H E W n0 hr hgd} : MSs (jOf T "begun_at" st_begun_at f cdv N_begun_at sc_begun_at.nd 1 A outer s H E W n0 hr hgd) (defBody st_begun_at) B_begun_at :=
  (ms_cons (ms_if (mt_cmp (od_eq rfl) (me_var 2) me_int (nomark _)) (ms_cons (ms_ret (me_var 1))
    ms_nil) ms_nil)
    (ms_cons (ms_set 3 (me_op od_sub (me_call F_days_until rfl (Nat.le_of_ble_eq_true rfl) rfl (ma_cons (me_var 0) (ma_cons (me_var 1) ma_nil))) (me_var 2)))
    (ms_cons (ms_ret (me_if (mt_cmp od_lt (me_var 3) me_int (nomark _)) me_non (me_call F_time_of_day rfl (Nat.le_of_ble_eq_true rfl) rfl (ma_cons (me_var 0) (ma_cons (me_var 3) ma_nil)))))
    ms_nil)))
theorem d_begun (F_check_calendar : Fn T 3 "check_calendar" ["calendar"] Qcheck_calendar) (F_is_count : Fn T 2 "is_count" ["value"] Qis_count) (F_begun_at : Fn T 2 "begun_at" ["calendar", "end", "duration"] Qbegun_at) {f cdv A outer s H E W n0 hr hgd} : MSs (jOf T "begun" st_begun f cdv N_begun sc_begun.nd 3 A outer s H E W n0 hr hgd) (defBody st_begun) B_begun :=
  (ms_cons (ms_expr (me_call F_check_calendar rfl (Nat.le_of_ble_eq_true rfl) rfl (ma_cons (me_var 0) ma_nil)))
    (ms_cons (ms_if (mt_not (mt_tru (me_call F_is_count rfl (Nat.le_of_ble_eq_true rfl) rfl (ma_cons (me_var 1) ma_nil)))) (ms_cons (ms_raise (G.ec_InvalidEnd) (me_var 1) rfl (Nat.le_trans (Nat.le_of_eq (congrArg (· + 1) G.ek_InvalidEnd)) (Nat.le_of_ble_eq_true rfl)) rfl)
    ms_nil) ms_nil)
    (ms_cons (ms_if (mt_not (mt_tru (me_call F_is_count rfl (Nat.le_of_ble_eq_true rfl) rfl (ma_cons (me_var 2) ma_nil)))) (ms_cons (ms_raise (G.ec_InvalidDuration) (me_var 2) rfl (Nat.le_trans (Nat.le_of_eq (congrArg (· + 1) G.ek_InvalidDuration)) (Nat.le_of_ble_eq_true rfl)) rfl)
    ms_nil) ms_nil)
    (ms_cons (ms_ret (me_call F_begun_at rfl (Nat.le_of_ble_eq_true rfl) rfl (ma_cons (me_var 0) (ma_cons (me_var 1) (ma_cons (me_var 2) ma_nil)))))
    ms_nil))))
theorem d_worked (F_check_calendar : Fn T 3 "check_calendar" ["calendar"] Qcheck_calendar) (F_is_count : Fn T 2 "is_count" ["value"] Qis_count) (F_days_until : Fn T 1 "days_until" ["calendar", "time"] Qdays_until) {f cdv A outer s H E W n0 hr hgd} : MSs (jOf T "worked" st_worked f cdv N_worked sc_worked.nd 3 A outer s H E W n0 hr hgd) (defBody st_worked) B_worked :=
  (ms_cons (ms_expr (me_call F_check_calendar rfl (Nat.le_of_ble_eq_true rfl) rfl (ma_cons (me_var 0) ma_nil)))
    (ms_cons (ms_if (mt_not (mt_tru (me_call F_is_count rfl (Nat.le_of_ble_eq_true rfl) rfl (ma_cons (me_var 1) ma_nil)))) (ms_cons (ms_raise (G.ec_InvalidStart) (me_var 1) rfl (Nat.le_trans (Nat.le_of_eq (congrArg (· + 1) G.ek_InvalidStart)) (Nat.le_of_ble_eq_true rfl)) rfl)
    ms_nil) ms_nil)
    (ms_cons (ms_if (mt_not (mt_tru (me_call F_is_count rfl (Nat.le_of_ble_eq_true rfl) rfl (ma_cons (me_var 2) ma_nil)))) (ms_cons (ms_raise (G.ec_InvalidEnd) (me_var 2) rfl (Nat.le_trans (Nat.le_of_eq (congrArg (· + 1) G.ek_InvalidEnd)) (Nat.le_of_ble_eq_true rfl)) rfl)
    ms_nil) ms_nil)
    (ms_cons (ms_ret (me_b (cb_max rfl) rfl G.b_max rfl (mh_cons me_int (mh_cons (me_op od_sub (me_call F_days_until rfl (Nat.le_of_ble_eq_true rfl) rfl (ma_cons (me_var 0) (ma_cons (me_var 2) ma_nil))) (me_call F_days_until rfl (Nat.le_of_ble_eq_true rfl) rfl (ma_cons (me_var 0) (ma_cons (me_var 1) ma_nil)))) mh_nil))))
    ms_nil))))
theorem d_done_at (F_time_of_day : Fn T 1 "time_of_day" ["calendar", "number"] Qtime_of_day) (F_days_until : Fn T 1 "days_until" ["calendar", "time"] Qdays_until) {f cdv A outer s H E W n0 hr hgd} : MSs (jOf T "done_at" st_done_at f cdv N_done_at sc_done_at.nd 1 A outer s H E W n0 hr hgd) (defBody st_done_at) B_done_at :=
  (ms_cons (ms_ret (me_if (mt_cmp (od_eq rfl) (me_var 2) me_int (nomark _)) (me_var 1) (me_op od_add me_int (me_call F_time_of_day rfl (Nat.le_of_ble_eq_true rfl) rfl (ma_cons (me_var 0) (ma_cons (me_op od_sub (me_op od_add (me_call F_days_until rfl (Nat.le_of_ble_eq_true rfl) rfl (ma_cons (me_var 0) (ma_cons (me_var 1) ma_nil))) (me_var 2)) me_int) ma_nil))))))
    ms_nil)
theorem d_done (F_check_calendar : Fn T 3 "check_calendar" ["calendar"] Qcheck_calendar) (F_is_count : Fn T 2 "is_count" ["value"] Qis_count) (F_done_at : Fn T 2 "done_at" ["calendar", "start", "duration"] Qdone_at) {f cdv A outer s H E W n0 hr hgd} : MSs (jOf T "done" st_done f cdv N_done sc_done.nd 3 A outer s H E W n0 hr hgd) (defBody st_done) B_done :=
  (ms_cons (ms_expr (me_call F_check_calendar rfl (Nat.le_of_ble_eq_true rfl) rfl (ma_cons (me_var 0) ma_nil)))
    (ms_cons (ms_if (mt_not (mt_tru (me_call F_is_count rfl (Nat.le_of_ble_eq_true rfl) rfl (ma_cons (me_var 1) ma_nil)))) (ms_cons (ms_raise (G.ec_InvalidStart) (me_var 1) rfl (Nat.le_trans (Nat.le_of_eq (congrArg (· + 1) G.ek_InvalidStart)) (Nat.le_of_ble_eq_true rfl)) rfl)
    ms_nil) ms_nil)
    (ms_cons (ms_if (mt_not (mt_tru (me_call F_is_count rfl (Nat.le_of_ble_eq_true rfl) rfl (ma_cons (me_var 2) ma_nil)))) (ms_cons (ms_raise (G.ec_InvalidDuration) (me_var 2) rfl (Nat.le_trans (Nat.le_of_eq (congrArg (· + 1) G.ek_InvalidDuration)) (Nat.le_of_ble_eq_true rfl)) rfl)
    ms_nil) ms_nil)
    (ms_cons (ms_ret (me_call F_done_at rfl (Nat.le_of_ble_eq_true rfl) rfl (ma_cons (me_var 0) (ma_cons (me_var 1) (ma_cons (me_var 2) ma_nil)))))
    ms_nil))))
theorem d__law_door (F_begun : Fn T 4 "begun" ["calendar", "end", "duration"] Qbegun) (F_worked : Fn T 4 "worked" ["calendar", "start", "end"] Qworked) (F_done : Fn T 4 "done" ["calendar", "start", "duration"] Qdone) (kb_worked_0_end_start_calendar : KB T.K F_worked.fd ["calendar", "start", "end"] 0 ["end", "start", "calendar"] [2, 1, 0]) (kb_done_0_duration_calendar_start : KB T.K F_done.fd ["calendar", "start", "duration"] 0 ["duration", "calendar", "start"] [1, 2, 0]) (kb_begun_0_duration_end_calendar : KB T.K F_begun.fd ["calendar", "end", "duration"] 0 ["duration", "end", "calendar"] [2, 1, 0]) {f cdv A outer s H E W n0 hr hgd} : MSs (jOf T "_law_door" st__law_door f cdv N__law_door sc__law_door.nd 4 A outer s H E W n0 hr hgd) (defBody st__law_door) B__law_door :=
  (ms_cons (ms_try rfl rfl rfl (fun pn xe EW tk po => (ms_cons (ms_if (mt_cmp (od_eq rfl) (me_var 0) me_int (nomark _)) (ms_cons (ms_ret (me_frz (ml_disp (ma_cons me_str (ma_cons (me_if (mt_tru (me_var 4)) (me_callK0 F_worked kb_worked_0_end_start_calendar rfl (Nat.le_of_ble_eq_true rfl) rfl (mk_cons (me_var 3) (mk_cons (me_var 2) (mk_cons (me_var 1) mk_nil)))) (me_call F_worked rfl (Nat.le_of_ble_eq_true rfl) rfl (ma_cons (me_var 1) (ma_cons (me_var 2) (ma_cons (me_var 3) ma_nil))))) ma_nil)))))
    ms_nil) ms_nil)
    (ms_cons (ms_if (mt_cmp (od_eq rfl) (me_var 0) me_int (nomark _)) (ms_cons (ms_ret (me_frz (ml_disp (ma_cons me_str (ma_cons (me_if (mt_tru (me_var 4)) (me_callK0 F_done kb_done_0_duration_calendar_start rfl (Nat.le_of_ble_eq_true rfl) rfl (mk_cons (me_var 3) (mk_cons (me_var 1) (mk_cons (me_var 2) mk_nil)))) (me_call F_done rfl (Nat.le_of_ble_eq_true rfl) rfl (ma_cons (me_var 1) (ma_cons (me_var 2) (ma_cons (me_var 3) ma_nil))))) ma_nil)))))
    ms_nil) ms_nil)
    (ms_cons (ms_ret (me_frz (ml_disp (ma_cons me_str (ma_cons (me_if (mt_tru (me_var 4)) (me_callK0 F_begun kb_begun_0_duration_end_calendar rfl (Nat.le_of_ble_eq_true rfl) rfl (mk_cons (me_var 3) (mk_cons (me_var 2) (mk_cons (me_var 1) mk_nil)))) (me_call F_begun rfl (Nat.le_of_ble_eq_true rfl) rfl (ma_cons (me_var 1) (ma_cons (me_var 2) (ma_cons (me_var 3) ma_nil))))) ma_nil)))))
    ms_nil)))) (.cons rfl (by decide) G.m_InvalidCalendars (G.ex_InvalidCalendars) rfl rfl (fun a oe cls d pn hz hf => (ms_cons (ms_ret (me_frz (ml_disp (ma_cons me_str (ma_cons (me_xf fld_given 5 hz hf G.xf_given) (ma_cons (me_xis subX "PlanError" 5 hz hf (G.is_PlanError) rfl G.b_isinstance rfl rfl G.m_PlanError) ma_nil))))))
    ms_nil)) (.cons rfl (by decide) G.m_InvalidStart (G.ex_InvalidStart) rfl rfl (fun a oe cls d pn hz hf => (ms_cons (ms_ret (me_frz (ml_disp (ma_cons me_str (ma_cons (me_xf fld_given 5 hz hf G.xf_given) (ma_cons (me_xis subX "PlanError" 5 hz hf (G.is_PlanError) rfl G.b_isinstance rfl rfl G.m_PlanError) ma_nil))))))
    ms_nil)) (.cons rfl (by decide) G.m_InvalidEnd (G.ex_InvalidEnd) rfl rfl (fun a oe cls d pn hz hf => (ms_cons (ms_ret (me_frz (ml_disp (ma_cons me_str (ma_cons (me_xf fld_given 5 hz hf G.xf_given) (ma_cons (me_xis subX "PlanError" 5 hz hf (G.is_PlanError) rfl G.b_isinstance rfl rfl G.m_PlanError) ma_nil))))))
    ms_nil)) (.cons rfl (by decide) G.m_InvalidDuration (G.ex_InvalidDuration) rfl rfl (fun a oe cls d pn hz hf => (ms_cons (ms_ret (me_frz (ml_disp (ma_cons me_str (ma_cons (me_xf fld_given 5 hz hf G.xf_given) (ma_cons (me_xis subX "PlanError" 5 hz hf (G.is_PlanError) rfl G.b_isinstance rfl rfl G.m_PlanError) ma_nil))))))
    ms_nil)) .nil)))))
    ms_nil)
theorem d__law_counted_right (F__law_take : Fn T 1 "_law_take" ["box", "many"] Q_law_take) (F__law_same : Fn T 5 "_law_same" ["given", "due"] Q_law_same) (F__law_door : Fn T 5 "_law_door" ["which", "calendar", "first", "last", "by_name"] Q_law_door) {f cdv A outer s H E W n0 hr hgd} : MSs (jOf T "_law_counted_right" st__law_counted_right f cdv N__law_counted_right sc__law_counted_right.nd 5 A outer s H E W n0 hr hgd) (defBody st__law_counted_right) B__law_counted_right :=
  (ms_cons (ms_par 4 5 rfl (ma_cons (me_frz (ml_comp (own := [("k", 13)]) rfl (mi_range1 rfl G.b_range (ma_cons me_int ma_nil)) (show BlkOk N__law_counted_right (defScope st__law_counted_right) _ [("k", 13)] from ⟨rfl, by decide +kernel, by decide +kernel, by decide +kernel, by decide +kernel⟩) (fun _ _ _ _ _ => (mp_name 13)) (fun _ _ _ _ _ => mts_nil) (fun _ _ _ _ _ => (me_op od_add (me_var 2) (me_var 13))))) (ma_cons (me_frz (ml_disp (ma_cons me_int (ma_cons me_int (ma_cons (me_op od_add me_int (me_call F__law_take rfl (Nat.le_of_ble_eq_true rfl) rfl (ma_cons (me_var 0) (ma_cons me_int ma_nil)))) ma_nil))))) ma_nil)))
    (ms_cons (ms_for [] (mi_data (me_sl (me_var 4) mo_no (mo_so me_int))) (mp_name 6) (ms_cons (ms_for [] (mi_data (me_var 4)) (mp_name 7) (ms_cons (ms_set 8 (me_b (cb_sum rfl) rfl G.b_sum rfl (mh_cons (me_frz (ml_comp (own := [("day", 14)]) rfl (mi_range2 rfl G.b_range (ma_cons (me_var 6) (ma_cons (me_var 7) ma_nil))) (show BlkOk N__law_counted_right (defScope st__law_counted_right) _ [("day", 14)] from ⟨rfl, by decide +kernel, by decide +kernel, by decide +kernel, by decide +kernel⟩) (fun _ _ _ _ _ => (mp_name 14)) (fun _ _ _ _ _ => mts_nil) (fun _ _ _ _ _ => (me_ix (me_var 1) (me_op od_mod (me_ty cb_int rfl G.b_int rfl (mh_cons (me_var 14) mh_nil)) (me_b cb_len rfl G.b_len rfl (mh_cons (me_var 1) mh_nil))))))) mh_nil)))
    (ms_cons (ms_if (mt_not (mt_tru (me_call F__law_same rfl (Nat.le_of_ble_eq_true rfl) rfl (ma_cons (me_call F__law_door rfl (Nat.le_of_ble_eq_true rfl) rfl (ma_cons me_int (ma_cons (me_var 1) (ma_cons (me_var 6) (ma_cons (me_var 7) (ma_cons (me_var 3) ma_nil)))))) (ma_cons (me_frz (ml_disp (ma_cons me_str (ma_cons (me_var 8) ma_nil)))) ma_nil))))) (ms_cons (ms_ret me_bl)
    ms_nil) ms_nil)
    (ms_cons (ms_for [] (mi_data (me_var 5)) (mp_name 9) (ms_cons (ms_if (mt_cmp od_le (me_var 6) (me_var 7) (nomark _)) (ms_cons (ms_par 10 11 rfl (ma_cons (me_ix (me_call F__law_door rfl (Nat.le_of_ble_eq_true rfl) rfl (ma_cons me_int (ma_cons (me_var 1) (ma_cons (me_var 6) (ma_cons (me_var 9) (ma_cons (me_not (me_var 3)) ma_nil)))))) me_int) (ma_cons (me_ix (me_call F__law_door rfl (Nat.le_of_ble_eq_true rfl) rfl (ma_cons me_int (ma_cons (me_var 1) (ma_cons (me_var 7) (ma_cons (me_var 9) (ma_cons (me_var 3) ma_nil)))))) me_int) ma_nil)))
    (ms_cons (ms_if (mt_w (mw_or (mt_cmp (od_ne rfl) (me_cmp od_ge (me_var 8) (me_var 9) (nomark _)) (me_cmp od_le (me_var 10) (me_var 7) (nomark _)) (nomark _)) (mw_or1 (mt_cmp (od_ne rfl) (me_cmp od_ge (me_var 8) (me_var 9) (nomark _)) (me_and (me_cmp od_isnot (me_var 11) me_non (nomark _)) (me_one (me_cmp od_ge (me_var 11) (me_var 6) (nomark _)))) (nomark _))))) (ms_cons (ms_ret me_bl)
    ms_nil) ms_nil)
    ms_nil)) ms_nil)
    ms_nil) rfl)
    ms_nil))) rfl)
    ms_nil) rfl)
    (ms_cons (ms_for [] (mi_data (me_var 5)) (mp_name 9) (ms_cons (ms_set 10 (me_var 2))
    (ms_cons (ms_for [] (mi_range1 rfl G.b_range (ma_cons (me_op od_add (me_op od_mul me_int (me_var 9)) me_int) ma_nil)) (mp_name 12) (ms_cons (ms_if (mt_cmp od_ge (me_b (cb_sum rfl) rfl G.b_sum rfl (mh_cons (me_frz (ml_comp (own := [("day", 14)]) rfl (mi_range2 rfl G.b_range (ma_cons (me_var 2) (ma_cons (me_var 10) ma_nil))) (show BlkOk N__law_counted_right (defScope st__law_counted_right) _ [("day", 14)] from ⟨rfl, by decide +kernel, by decide +kernel, by decide +kernel, by decide +kernel⟩) (fun _ _ _ _ _ => (mp_name 14)) (fun _ _ _ _ _ => mts_nil) (fun _ _ _ _ _ => (me_ix (me_var 1) (me_op od_mod (me_ty cb_int rfl G.b_int rfl (mh_cons (me_var 14) mh_nil)) (me_b cb_len rfl G.b_len rfl (mh_cons (me_var 1) mh_nil))))))) mh_nil)) (me_var 9) (nomark _)) (ms_cons ms_brk
    ms_nil) ms_nil)
    (ms_cons (ms_set 10 (me_op od_add (me_var 10) me_int))
    ms_nil)) rfl)
    (ms_cons (ms_if (mt_not (mt_tru (me_call F__law_same rfl (Nat.le_of_ble_eq_true rfl) rfl (ma_cons (me_call F__law_door rfl (Nat.le_of_ble_eq_true rfl) rfl (ma_cons me_int (ma_cons (me_var 1) (ma_cons (me_var 2) (ma_cons (me_var 9) (ma_cons (me_var 3) ma_nil)))))) (ma_cons (me_frz (ml_disp (ma_cons me_str (ma_cons (me_var 10) ma_nil)))) ma_nil))))) (ms_cons (ms_ret me_bl)
    ms_nil) ms_nil)
    ms_nil))) rfl)
    (ms_cons (ms_ret me_bl)
    ms_nil))))
theorem d__law_bad_calendar (F__law_take : Fn T 1 "_law_take" ["box", "many"] Q_law_take) {f cdv A outer s H E W n0 hr hgd} : MSs (jOf T "_law_bad_calendar" st__law_bad_calendar f cdv N__law_bad_calendar sc__law_bad_calendar.nd 1 A outer s H E W n0 hr hgd) (defBody st__law_bad_calendar) B__law_bad_calendar :=
  (ms_cons (ms_par 2 3 rfl (ma_cons (me_call F__law_take rfl (Nat.le_of_ble_eq_true rfl) rfl (ma_cons (me_var 0) (ma_cons (me_b cb_len rfl G.b_len rfl (mh_cons (me_var 1) mh_nil)) ma_nil))) (ma_cons (me_call F__law_take rfl (Nat.le_of_ble_eq_true rfl) rfl (ma_cons (me_var 0) (ma_cons me_int ma_nil))) ma_nil)))
    (ms_cons (ms_set 4 (me_frz (ml_disp (ma_cons me_int (ma_cons (me_un ud_neg me_int) (ma_cons me_bl (ma_cons me_non (ma_cons me_str (ma_cons (me_tup (ma_cons me_int ma_nil)) (ma_cons (me_frz (ml_disp (ma_cons me_int ma_nil))) (ma_cons me_bl (ma_cons (me_op od_pow me_int me_int) ma_nil))))))))))))
    (ms_cons (ms_if (mt_cmp od_lt (me_var 3) me_int (nomark _)) (ms_cons (ms_ret (me_op od_add (me_op od_add (me_sl (me_var 1) mo_no (mo_so (me_var 2))) (me_tup (ma_cons (me_ix (me_var 4) (me_var 3)) ma_nil))) (me_sl (me_var 1) (mo_so (me_op od_add (me_var 2) me_int)) mo_no)))
    ms_nil) ms_nil)
    (ms_cons (ms_set 5 (me_b cb_len rfl G.b_len rfl (mh_cons (me_var 1) mh_nil)))
    (ms_cons (ms_ret (me_ix (me_frz (ml_disp (ma_cons (me_frz (ml_list rfl G.b_list rfl (mh_cons (me_var 1) mh_nil))) (ma_cons (me_tup ma_nil) (ma_cons (me_op od_mul (me_tup (ma_cons me_int ma_nil)) (me_var 5)) (ma_cons (me_op od_add (me_var 1) (me_op od_mul (me_tup (ma_cons me_int ma_nil)) (me_op od_sub me_int (me_var 5)))) (ma_cons (me_op od_add (me_var 1) (me_op od_mul (me_tup (ma_cons me_int ma_nil)) (me_op od_sub me_int (me_var 5)))) (ma_cons me_non (ma_cons me_str ma_nil))))))))) (me_op od_sub (me_var 3) me_int)))
    ms_nil)))))
theorem d__law_copy {k : Nat} {R : FM} (F__law_copy : Fn T k "_law_copy" ["value"] R) (hk : 0 ≤ k) {f cdv A outer s H E W n0 hr hgd} : MSs (jOf T "_law_copy" st__law_copy f cdv N__law_copy sc__law_copy.nd k A outer s H E W n0 hr hgd) (defBody st__law_copy) (B__law_copy  R) :=
  (ms_cons (ms_if (mt_tru (me_is "list" (me_var 0) rfl G.b_isinstance rfl rfl G.b_list rfl)) (ms_cons (ms_ret (me_box (ml_comp (own := [("item", 3)]) rfl (mi_data (me_var 0)) (show BlkOk N__law_copy (defScope st__law_copy) _ [("item", 3)] from ⟨rfl, by decide +kernel, by decide +kernel, by decide +kernel, by decide +kernel⟩) (fun _ _ _ _ _ => (mp_name 3)) (fun _ _ _ _ _ => mts_nil) (fun _ _ _ _ _ => (me_call F__law_copy rfl (Nat.le_refl _) rfl (ma_cons (me_var 3) ma_nil))))))
    ms_nil) ms_nil)
    (ms_cons (ms_if (mt_tru (me_is "tuple" (me_var 0) rfl G.b_isinstance rfl rfl G.b_tuple rfl)) (ms_cons (ms_ret (me_ty cb_tuple rfl G.b_tuple rfl (mh_cons (me_frz (ml_comp (own := [("item", 3)]) rfl (mi_data (me_var 0)) (show BlkOk N__law_copy (defScope st__law_copy) _ [("item", 3)] from ⟨rfl, by decide +kernel, by decide +kernel, by decide +kernel, by decide +kernel⟩) (fun _ _ _ _ _ => (mp_name 3)) (fun _ _ _ _ _ => mts_nil) (fun _ _ _ _ _ => (me_call F__law_copy rfl (Nat.le_refl _) rfl (ma_cons (me_var 3) ma_nil))))) mh_nil)))
    ms_nil) ms_nil)
    (ms_cons (ms_set 1 me_dic0)
    (ms_cons (ms_if (mt_tru (me_is "dict" (me_var 0) rfl G.b_isinstance rfl rfl G.b_dict rfl)) mss_bad ms_nil)
    (ms_cons (ms_ret (me_if (mt_tru (me_is "dict" (me_var 0) rfl G.b_isinstance rfl rfl G.b_dict rfl)) (me_var 1) (me_var 0)))
    ms_nil)))))
theorem d__law_is_int {f cdv A outer s H E W n0 hr hgd} : MSs (jOf T "_law_is_int" st__law_is_int f cdv N__law_is_int sc__law_is_int.nd 0 A outer s H E W n0 hr hgd) (defBody st__law_is_int) B__law_is_int :=
  (ms_cons (ms_ret (me_and (me_is "int" (me_var 0) rfl G.b_isinstance rfl rfl G.b_int rfl) (me_one (me_not (me_is "bool" (me_var 0) rfl G.b_isinstance rfl rfl G.b_bool rfl)))))
    ms_nil)
theorem d__law_is_calendar (F__law_is_int : Fn T 1 "_law_is_int" ["value"] Q_law_is_int) {f cdv A outer s H E W n0 hr hgd} : MSs (jOf T "_law_is_calendar" st__law_is_calendar f cdv N__law_is_calendar sc__law_is_calendar.nd 1 A outer s H E W n0 hr hgd) (defBody st__law_is_calendar) B__law_is_calendar :=
  (ms_cons (ms_if (mt_w (mw_or (mt_not (mt_tru (me_is "tuple" (me_var 0) rfl G.b_isinstance rfl rfl G.b_tuple rfl))) (mw_or1 (mt_not (mt_chain od_le od_le me_int (me_b cb_len rfl G.b_len rfl (mh_cons (me_var 0) mh_nil)) me_int))))) (ms_cons (ms_ret me_bl)
    ms_nil) ms_nil)
    (ms_cons (ms_ret (me_and (me_cmp (od_eq rfl) (me_frz (ml_comp (own := [("day", 1)]) rfl (mi_data (me_var 0)) (show BlkOk N__law_is_calendar (defScope st__law_is_calendar) _ [("day", 1)] from ⟨rfl, by decide +kernel, by decide +kernel, by decide +kernel, by decide +kernel⟩) (fun _ _ _ _ _ => (mp_name 1)) (fun _ _ _ _ _ => (mts_one (mt_w (mw_or (mt_not (mt_tru (me_call F__law_is_int rfl (Nat.le_of_ble_eq_true rfl) rfl (ma_cons (me_var 1) ma_nil)))) (mw_or1 (mt_cmp (od_notin rfl) (me_var 1) (me_frz (ml_disp (ma_cons me_int (ma_cons me_int ma_nil)))) rfl)))))) (fun _ _ _ _ _ => (me_var 1)))) (me_frz (ml_disp ma_nil)) (nomark _)) (me_one (me_cmp (od_eq rfl) (me_b (cb_max rfl) rfl G.b_max rfl (mh_cons (me_var 0) mh_nil)) me_int (nomark _)))))
    ms_nil))
theorem d__law_grown {k : Nat} {R : FM} (F__law_grown : Fn T k "_law_grown" ["value"] R) (hk : 0 ≤ k) {f cdv A outer s H E W n0 hr hgd} : MSs (jOf T "_law_grown" st__law_grown f cdv N__law_grown sc__law_grown.nd k A outer s H E W n0 hr hgd) (defBody st__law_grown) (B__law_grown  R) :=
  (ms_cons (ms_if (mt_tru (me_is "list" (me_var 0) rfl G.b_isinstance rfl rfl G.b_list rfl)) (ms_cons (ms_x (mx_mut 0 mu_insert PySem.F.slot_list_insert PySem.F.type_list_insert (ma_cons me_int (ma_cons me_str ma_nil))))
    ms_nil) (ms_cons (ms_if (mt_tru (me_is "dict" (me_var 0) rfl G.b_isinstance rfl rfl G.b_dict rfl)) mss_bad (ms_cons (ms_if (mt_tru (me_is "tuple" (me_var 0) rfl G.b_isinstance rfl rfl G.b_tuple rfl)) (ms_cons (ms_for [] (mi_data (me_var 0)) (mp_name 1) (ms_cons (ms_expr (me_call F__law_grown rfl (Nat.le_refl _) rfl (ma_cons (me_var 1) ma_nil)))
    ms_nil) rfl)
    ms_nil) ms_nil)
    ms_nil))
    ms_nil))
    (ms_cons (ms_ret (me_repr rfl (me_var 0) rfl G.b_repr rfl))
    ms_nil))
theorem d__law_refused_right (F__law_bad_calendar : Fn T 2 "_law_bad_calendar" ["box", "calendar"] Q_law_bad_calendar) (F__law_door : Fn T 5 "_law_door" ["which", "calendar", "first", "last", "by_name"] Q_law_door) (F__law_take : Fn T 1 "_law_take" ["box", "many"] Q_law_take) (F__law_copy : Fn T 5 "_law_copy" ["value"] Q_law_copy) (F__law_is_calendar : Fn T 2 "_law_is_calendar" ["value"] Q_law_is_calendar) (F__law_is_int : Fn T 1 "_law_is_int" ["value"] Q_law_is_int) (F__law_grown : Fn T 5 "_law_grown" ["value"] Q_law_grown) {f cdv A outer s H E W n0 hr hgd} : MSs (jOf T "_law_refused_right" st__law_refused_right f cdv N__law_refused_right sc__law_refused_right.nd 5 A outer s H E W n0 hr hgd) (defBody st__law_refused_right) B__law_refused_right :=
  (ms_cons (ms_set 3 (me_frz (ml_disp (ma_cons (me_un ud_neg me_int) (ma_cons me_non (ma_cons me_bl (ma_cons me_str (ma_cons (me_frz (ml_disp (ma_cons me_int ma_nil))) (ma_cons (me_tup (ma_cons me_int ma_nil)) (ma_cons me_bl (ma_cons (me_un ud_neg (me_op od_pow me_int me_int)) ma_nil)))))))))))
    (ms_cons (ms_for [] (mi_range1 rfl G.b_range (ma_cons me_int ma_nil)) (mp_name 4) (ms_cons (ms_set 5 (me_if (mt_cmp (od_in rfl) (me_var 4) (me_frz (ml_disp (ma_cons me_int (ma_cons me_int ma_nil)))) rfl) (me_call F__law_bad_calendar rfl (Nat.le_of_ble_eq_true rfl) rfl (ma_cons (me_var 0) (ma_cons (me_var 1) ma_nil))) (me_var 1)))
    (ms_cons (ms_set 6 (me_if (mt_cmp (od_in rfl) (me_var 4) (me_frz (ml_disp (ma_cons me_int (ma_cons me_int (ma_cons me_int (ma_cons me_int ma_nil)))))) rfl) (me_ix (me_var 3) (me_call F__law_take rfl (Nat.le_of_ble_eq_true rfl) rfl (ma_cons (me_var 0) (ma_cons me_int ma_nil)))) me_int))
    (ms_cons (ms_set 7 (me_if (mt_cmp (od_in rfl) (me_var 4) (me_frz (ml_disp (ma_cons me_int (ma_cons me_int (ma_cons me_int ma_nil))))) rfl) (me_ix (me_var 3) (me_call F__law_take rfl (Nat.le_of_ble_eq_true rfl) rfl (ma_cons (me_var 0) (ma_cons me_int ma_nil)))) me_int))
    (ms_cons (ms_for [] (mi_range1 rfl G.b_range (ma_cons me_int ma_nil)) (mp_name 8) (ms_cons (ms_set 9 (me_frz (ml_disp (ma_cons (me_call F__law_copy rfl (Nat.le_of_ble_eq_true rfl) rfl (ma_cons (me_var 5) ma_nil)) (ma_cons (me_call F__law_copy rfl (Nat.le_of_ble_eq_true rfl) rfl (ma_cons (me_var 6) ma_nil)) (ma_cons (me_call F__law_copy rfl (Nat.le_of_ble_eq_true rfl) rfl (ma_cons (me_var 7) ma_nil)) ma_nil))))))
    (ms_cons (ms_set 10 (me_frz (ml_disp (ma_cons (me_call F__law_is_calendar rfl (Nat.le_of_ble_eq_true rfl) rfl (ma_cons (me_var 5) ma_nil)) (ma_cons (me_and (me_call F__law_is_int rfl (Nat.le_of_ble_eq_true rfl) rfl (ma_cons (me_var 6) ma_nil)) (me_one (me_cmp od_ge (me_var 6) me_int (nomark _)))) (ma_cons (me_and (me_call F__law_is_int rfl (Nat.le_of_ble_eq_true rfl) rfl (ma_cons (me_var 7) ma_nil)) (me_one (me_cmp od_ge (me_var 7) me_int (nomark _)))) ma_nil))))))
    (ms_cons (ms_set 11 (me_repr rfl (me_var 9) rfl G.b_repr rfl))
    (ms_cons (ms_set 12 (me_call F__law_door rfl (Nat.le_of_ble_eq_true rfl) rfl (ma_cons (me_var 8) (ma_cons (me_ix (me_var 9) me_int) (ma_cons (me_ix (me_var 9) me_int) (ma_cons (me_ix (me_var 9) me_int) (ma_cons (me_var 2) ma_nil)))))))
    (ms_cons (ms_set 13 (me_frz (ml_disp (ma_cons me_str (ma_cons (me_ix (me_frz (ml_disp (ma_cons me_str (ma_cons me_str (ma_cons me_str ma_nil))))) (me_var 8)) (ma_cons (me_ix (me_frz (ml_disp (ma_cons me_str (ma_cons me_str (ma_cons me_str ma_nil))))) (me_var 8)) ma_nil))))))
    (ms_cons (ms_setLc 14 (own := [("k", 15)]) rfl (mi_range1 rfl G.b_range (ma_cons me_int ma_nil)) (show BlkOk N__law_refused_right (defScope st__law_refused_right) _ [("k", 15)] from ⟨rfl, by decide +kernel, by decide +kernel, by decide +kernel, by decide +kernel⟩) (fun _ _ _ _ _ => (mp_name 15)) (fun _ _ _ _ _ => (mts_one (mt_not (mt_tru (me_ix (me_var 10) (me_var 15)))))) (fun _ _ _ _ _ => (me_var 15)))
    (ms_cons (ms_if (mt_w (mw_or (mt_cmp (od_ne rfl) (me_repr rfl (me_var 9) rfl G.b_repr rfl) (me_var 11) (nomark _)) (mw_or1 (mt_cmp (od_ne rfl) (me_ix (me_var 12) me_int) (me_if (mt_cmp (od_ne rfl) (me_var 14) (me_frz (ml_disp ma_nil)) (nomark _)) (me_ix (me_var 13) (me_ix (me_var 14) me_int)) me_str) (nomark _))))) (ms_cons (ms_ret me_bl)
    ms_nil) ms_nil)
    (ms_cons (ms_if (mt_w (mw_and (mt_cmp (od_ne rfl) (me_var 14) (me_frz (ml_disp ma_nil)) (nomark _)) (mw_and1 (mt_w (mw_or (mt_cmp od_isnot (me_ix (me_var 12) me_int) me_bl (nomark _)) (mw_or1 (mt_cmp (od_ne rfl) (me_call F__law_grown rfl (Nat.le_of_ble_eq_true rfl) rfl (ma_cons (me_ix (me_var 9) (me_ix (me_var 14) me_int)) ma_nil)) (me_repr rfl (me_ix (me_var 12) me_int) rfl G.b_repr rfl) (nomark _)))))))) (ms_cons (ms_ret me_bl)
    ms_nil) ms_nil)
    ms_nil)))))))) rfl)
    ms_nil)))) rfl)
    (ms_cons (ms_ret me_bl)
    ms_nil)))
theorem d__law_tests_right (F__law_is_calendar : Fn T 2 "_law_is_calendar" ["value"] Q_law_is_calendar) (F__law_bad_calendar : Fn T 2 "_law_bad_calendar" ["box", "calendar"] Q_law_bad_calendar) (F__law_same : Fn T 5 "_law_same" ["given", "due"] Q_law_same) (F_is_calendar : Fn T 2 "is_calendar" ["value"] Qis_calendar) (kb_is_calendar_0_value : KB T.K F_is_calendar.fd ["value"] 0 ["value"] [0]) {f cdv A outer s H E W n0 hr hgd} : MSs (jOf T "_law_tests_right" st__law_tests_right f cdv N__law_tests_right sc__law_tests_right.nd 5 A outer s H E W n0 hr hgd) (defBody st__law_tests_right) B__law_tests_right :=
  (ms_cons (ms_set 2 (me_b cb_len rfl G.b_len rfl (mh_cons (me_var 1) mh_nil)))
    (ms_cons (ms_set 3 (me_frz (ml_disp (ma_cons (me_var 1) (ma_cons (me_tup (ma_cons me_int ma_nil)) (ma_cons (me_tup (ma_cons me_int ma_nil)) (ma_cons (me_op od_add (me_op od_mul (me_tup (ma_cons me_int ma_nil)) me_int) (me_tup (ma_cons me_int ma_nil))) (ma_cons (me_op od_mul (me_tup (ma_cons me_int ma_nil)) me_int) (ma_cons (me_op od_mul (me_tup (ma_cons me_int ma_nil)) me_int) (ma_cons (me_tup (ma_cons me_bl ma_nil)) (ma_cons (me_tup ma_nil) (ma_cons (me_frz (ml_disp (ma_cons me_int ma_nil))) (ma_cons me_non (ma_cons me_int (ma_cons me_str (ma_cons (me_dic1 (k := .inl 0) pe_int me_int) (ma_cons (me_tup (ma_cons (me_tup (ma_cons me_int ma_nil)) ma_nil)) (ma_cons (me_tup (ma_cons me_int (ma_cons me_int ma_nil))) ma_nil))))))))))))))))))
    (ms_cons (ms_for [] (mi_data (me_op od_add (me_op od_add (me_var 3) (me_frz (ml_comp (own := [("turn", 7)]) rfl (mi_range1 rfl G.b_range (ma_cons me_int ma_nil)) (show BlkOk N__law_tests_right (defScope st__law_tests_right) _ [("turn", 7)] from ⟨rfl, by decide +kernel, by decide +kernel, by decide +kernel, by decide +kernel⟩) (fun _ _ _ _ _ => (mp_name 7)) (fun _ _ _ _ _ => mts_nil) (fun _ _ _ _ _ => (me_call F__law_bad_calendar rfl (Nat.le_of_ble_eq_true rfl) rfl (ma_cons (me_var 0) (ma_cons (me_var 1) ma_nil))))))) (me_frz (ml_disp (ma_cons (me_rev (me_var 1)) (ma_cons (me_op od_mul (me_var 1) me_int) (ma_cons (me_op od_add (me_op od_mul (me_tup (ma_cons me_int ma_nil)) (me_op od_sub me_int (me_var 2))) (me_var 1)) ma_nil))))))) (mp_name 4) (ms_cons (ms_par 5 6 rfl (ma_cons (me_repr rfl (me_var 4) rfl G.b_repr rfl) (ma_cons (me_call F__law_is_calendar rfl (Nat.le_of_ble_eq_true rfl) rfl (ma_cons (me_var 4) ma_nil)) ma_nil)))
    (ms_cons (ms_if (mt_w (mw_or (mt_not (mt_tru (me_call F__law_same rfl (Nat.le_of_ble_eq_true rfl) rfl (ma_cons (me_frz (ml_disp (ma_cons (me_call F_is_calendar rfl (Nat.le_of_ble_eq_true rfl) rfl (ma_cons (me_var 4) ma_nil)) (ma_cons (me_callK0 F_is_calendar kb_is_calendar_0_value rfl (Nat.le_of_ble_eq_true rfl) rfl (mk_cons (me_var 4) mk_nil)) ma_nil)))) (ma_cons (me_frz (ml_disp (ma_cons (me_var 6) (ma_cons (me_var 6) ma_nil)))) ma_nil))))) (mw_or1 (mt_cmp (od_ne rfl) (me_repr rfl (me_var 4) rfl G.b_repr rfl) (me_var 5) (nomark _))))) (ms_cons (ms_ret me_bl)
    ms_nil) ms_nil)
    ms_nil)) rfl)
    (ms_cons (ms_ret me_bl)
    ms_nil))))
theorem d__law_worked {f cdv A outer s H E W n0 hr hgd} : MSs (jOf T "_law_worked" st__law_worked f cdv N__law_worked sc__law_worked.nd 0 A outer s H E W n0 hr hgd) (defBody st__law_worked) B__law_worked :=
  (ms_cons (ms_if (mt_cmp od_le (me_var 2) (me_var 1) (nomark _)) (ms_cons (ms_ret me_int)
    ms_nil) ms_nil)
    (ms_cons (ms_set 3 (me_op od_fdiv (me_op od_sub (me_var 2) (me_var 1)) (me_b cb_len rfl G.b_len rfl (mh_cons (me_var 0) mh_nil))))
    (ms_cons (ms_set 4 (me_op od_add (me_var 1) (me_op od_mul (me_var 3) (me_b cb_len rfl G.b_len rfl (mh_cons (me_var 0) mh_nil)))))
    (ms_cons (ms_setLc 5 (own := [("k", 6)]) rfl (mi_range1 rfl G.b_range (ma_cons (me_op od_sub (me_var 2) (me_var 4)) ma_nil)) (show BlkOk N__law_worked (defScope st__law_worked) _ [("k", 6)] from ⟨rfl, by decide +kernel, by decide +kernel, by decide +kernel, by decide +kernel⟩) (fun _ _ _ _ _ => (mp_name 6)) (fun _ _ _ _ _ => mts_nil) (fun _ _ _ _ _ => (me_ix (me_var 0) (me_op od_mod (me_ty cb_int rfl G.b_int rfl (mh_cons (me_op od_add (me_var 4) (me_var 6)) mh_nil)) (me_b cb_len rfl G.b_len rfl (mh_cons (me_var 0) mh_nil))))))
    (ms_cons (ms_ret (me_op od_add (me_op od_mul (me_var 3) (me_b (cb_sum rfl) rfl G.b_sum rfl (mh_cons (me_var 0) mh_nil))) (me_b (cb_sum rfl) rfl G.b_sum rfl (mh_cons (me_var 5) mh_nil))))
    ms_nil)))))
theorem d__law_done {f cdv A outer s H E W n0 hr hgd} : MSs (jOf T "_law_done" st__law_done f cdv N__law_done sc__law_done.nd 0 A outer s H E W n0 hr hgd) (defBody st__law_done) B__law_done :=
  (ms_cons (ms_if (mt_cmp (od_eq rfl) (me_var 2) me_int (nomark _)) (ms_cons (ms_ret (me_var 1))
    ms_nil) ms_nil)
    (ms_cons (ms_set 3 (me_op od_fdiv (me_op od_sub (me_var 2) me_int) (me_b (cb_sum rfl) rfl G.b_sum rfl (mh_cons (me_var 0) mh_nil))))
    (ms_cons (ms_par 4 5 rfl (ma_cons (me_op od_sub (me_var 2) (me_op od_mul (me_var 3) (me_b (cb_sum rfl) rfl G.b_sum rfl (mh_cons (me_var 0) mh_nil)))) (ma_cons (me_op od_add (me_var 1) (me_op od_mul (me_var 3) (me_b cb_len rfl G.b_len rfl (mh_cons (me_var 0) mh_nil)))) ma_nil)))
    (ms_cons (ms_for [] (mi_range1 rfl G.b_range (ma_cons (me_b cb_len rfl G.b_len rfl (mh_cons (me_var 0) mh_nil)) ma_nil)) (mp_name 6) (ms_cons (ms_if (mt_cmp od_gt (me_var 4) me_int (nomark _)) (ms_cons (ms_par 4 5 rfl (ma_cons (me_op od_sub (me_var 4) (me_ix (me_var 0) (me_op od_mod (me_ty cb_int rfl G.b_int rfl (mh_cons (me_var 5) mh_nil)) (me_b cb_len rfl G.b_len rfl (mh_cons (me_var 0) mh_nil))))) (ma_cons (me_op od_add (me_var 5) me_int) ma_nil)))
    ms_nil) ms_nil)
    ms_nil) rfl)
    (ms_cons (ms_ret (me_var 5))
    ms_nil)))))
theorem d__law_begun {f cdv A outer s H E W n0 hr hgd} : MSs (jOf T "_law_begun" st__law_begun f cdv N__law_begun sc__law_begun.nd 0 A outer s H E W n0 hr hgd) (defBody st__law_begun) B__law_begun :=
  (ms_cons (ms_if (mt_cmp (od_eq rfl) (me_var 2) me_int (nomark _)) (ms_cons (ms_ret (me_var 1))
    ms_nil) ms_nil)
    (ms_cons (ms_set 3 (me_op od_fdiv (me_op od_sub (me_var 2) me_int) (me_b (cb_sum rfl) rfl G.b_sum rfl (mh_cons (me_var 0) mh_nil))))
    (ms_cons (ms_par 4 5 rfl (ma_cons (me_op od_sub (me_var 2) (me_op od_mul (me_var 3) (me_b (cb_sum rfl) rfl G.b_sum rfl (mh_cons (me_var 0) mh_nil)))) (ma_cons (me_op od_sub (me_var 1) (me_op od_mul (me_var 3) (me_b cb_len rfl G.b_len rfl (mh_cons (me_var 0) mh_nil)))) ma_nil)))
    (ms_cons (ms_for [] (mi_range1 rfl G.b_range (ma_cons (me_b cb_len rfl G.b_len rfl (mh_cons (me_var 0) mh_nil)) ma_nil)) (mp_name 6) (ms_cons (ms_if (mt_cmp od_gt (me_var 4) me_int (nomark _)) (ms_cons (ms_set 5 (me_op od_sub (me_var 5) me_int))
    (ms_cons (ms_set 4 (me_op od_sub (me_var 4) (me_ix (me_var 0) (me_op od_mod (me_ty cb_int rfl G.b_int rfl (mh_cons (me_var 5) mh_nil)) (me_b cb_len rfl G.b_len rfl (mh_cons (me_var 0) mh_nil))))))
    ms_nil)) ms_nil)
    ms_nil) rfl)
    (ms_cons (ms_ret (me_if (mt_cmp od_ge (me_var 5) me_int (nomark _)) (me_var 5) me_non))
    ms_nil)))))
theorem d__law_due (F__law_worked : Fn T 1 "_law_worked" ["calendar", "start", "end"] Q_law_worked) (F__law_done : Fn T 1 "_law_done" ["calendar", "start", "duration"] Q_law_done) (F__law_begun : Fn T 1 "_law_begun" ["calendar", "end", "duration"] Q_law_begun) {f cdv A outer s H E W n0 hr hgd} : MSs (jOf T "_law_due" st__law_due f cdv N__law_due sc__law_due.nd 1 A outer s H E W n0 hr hgd) (defBody st__law_due) B__law_due :=
  (ms_cons (ms_if (mt_cmp (od_eq rfl) (me_var 0) me_int (nomark _)) (ms_cons (ms_ret (me_frz (ml_disp (ma_cons me_str (ma_cons (me_call F__law_worked rfl (Nat.le_of_ble_eq_true rfl) rfl (ma_cons (me_var 1) (ma_cons (me_var 2) (ma_cons (me_var 3) ma_nil)))) ma_nil)))))
    ms_nil) ms_nil)
    (ms_cons (ms_ret (me_frz (ml_disp (ma_cons me_str (ma_cons (me_if (mt_cmp (od_eq rfl) (me_var 0) me_int (nomark _)) (me_call F__law_done rfl (Nat.le_of_ble_eq_true rfl) rfl (ma_cons (me_var 1) (ma_cons (me_var 2) (ma_cons (me_var 3) ma_nil)))) (me_call F__law_begun rfl (Nat.le_of_ble_eq_true rfl) rfl (ma_cons (me_var 1) (ma_cons (me_var 2) (ma_cons (me_var 3) ma_nil))))) ma_nil)))))
    ms_nil))
theorem d__law_great_right (F__law_take : Fn T 1 "_law_take" ["box", "many"] Q_law_take) (F__law_due : Fn T 2 "_law_due" ["which", "calendar", "first", "last"] Q_law_due) (F__law_same : Fn T 5 "_law_same" ["given", "due"] Q_law_same) (F__law_door : Fn T 5 "_law_door" ["which", "calendar", "first", "last", "by_name"] Q_law_door) {f cdv A outer s H E W n0 hr hgd} : MSs (jOf T "_law_great_right" st__law_great_right f cdv N__law_great_right sc__law_great_right.nd 5 A outer s H E W n0 hr hgd) (defBody st__law_great_right) B__law_great_right :=
  (ms_cons (ms_for [] (mi_range1 rfl G.b_range (ma_cons me_int ma_nil)) (mp_name 3) (ms_cons (ms_set 4 (me_op od_mul (me_ix (me_frz (ml_disp (ma_cons (me_op od_pow me_int me_int) (ma_cons (me_op od_mul (me_op od_pow me_int me_int) (me_op od_pow (me_op od_pow me_int me_int) me_int)) (ma_cons me_int (ma_cons me_int ma_nil)))))) (me_call F__law_take rfl (Nat.le_of_ble_eq_true rfl) rfl (ma_cons (me_var 0) (ma_cons me_int ma_nil)))) (me_op od_add me_int (me_call F__law_take rfl (Nat.le_of_ble_eq_true rfl) rfl (ma_cons (me_var 0) (ma_cons me_int ma_nil))))))
    (ms_cons (ms_set 5 (me_op od_add (me_var 4) (me_call F__law_take rfl (Nat.le_of_ble_eq_true rfl) rfl (ma_cons (me_var 0) (ma_cons me_int ma_nil)))))
    (ms_cons (ms_set 6 (me_ix (me_frz (ml_disp (ma_cons (me_call F__law_take rfl (Nat.le_of_ble_eq_true rfl) rfl (ma_cons (me_var 0) (ma_cons me_int ma_nil))) (ma_cons (me_op od_add (me_op od_pow me_int me_int) (me_call F__law_take rfl (Nat.le_of_ble_eq_true rfl) rfl (ma_cons (me_var 0) (ma_cons me_int ma_nil)))) (ma_cons me_int (ma_cons (me_op od_fdiv (me_var 5) me_int) (ma_cons (me_op od_mul (me_var 5) me_int) (ma_cons (me_b (cb_max rfl) rfl G.b_max rfl (mh_cons me_int (mh_cons (me_op od_sub (me_op od_sub (me_var 5) me_int) (me_call F__law_take rfl (Nat.le_of_ble_eq_true rfl) rfl (ma_cons (me_var 0) (ma_cons me_int ma_nil)))) mh_nil))) ma_nil)))))))) (me_call F__law_take rfl (Nat.le_of_ble_eq_true rfl) rfl (ma_cons (me_var 0) (ma_cons me_int ma_nil)))))
    (ms_cons (ms_for [] (mi_range1 rfl G.b_range (ma_cons me_int ma_nil)) (mp_name 7) (ms_cons (ms_set 8 (me_call F__law_due rfl (Nat.le_of_ble_eq_true rfl) rfl (ma_cons (me_var 7) (ma_cons (me_var 1) (ma_cons (me_var 5) (ma_cons (me_var 6) ma_nil))))))
    (ms_cons (ms_if (mt_not (mt_tru (me_call F__law_same rfl (Nat.le_of_ble_eq_true rfl) rfl (ma_cons (me_call F__law_door rfl (Nat.le_of_ble_eq_true rfl) rfl (ma_cons (me_var 7) (ma_cons (me_var 1) (ma_cons (me_var 5) (ma_cons (me_var 6) (ma_cons (me_var 2) ma_nil)))))) (ma_cons (me_var 8) ma_nil))))) (ms_cons (ms_ret me_bl)
    ms_nil) ms_nil)
    (ms_cons (ms_if (mt_not (mt_tru (me_call F__law_same rfl (Nat.le_of_ble_eq_true rfl) rfl (ma_cons (me_call F__law_door rfl (Nat.le_of_ble_eq_true rfl) rfl (ma_cons (me_var 7) (ma_cons (me_var 1) (ma_cons (me_var 5) (ma_cons (me_var 6) (ma_cons (me_not (me_var 2)) ma_nil)))))) (ma_cons (me_var 8) ma_nil))))) (ms_cons (ms_ret me_bl)
    ms_nil) ms_nil)
    ms_nil))) rfl)
    ms_nil)))) rfl)
    (ms_cons (ms_ret me_bl)
    ms_nil))
theorem d_law (F__law_box : Fn T 1 "_law_box" ["great"] Q_law_box) (F__law_cell : Fn T 1 "_law_cell" ["script", "k"] Q_law_cell) (F__law_take : Fn T 1 "_law_take" ["box", "many"] Q_law_take) (F__law_calendar : Fn T 2 "_law_calendar" ["box"] Q_law_calendar) (F__law_counted_right : Fn T 6 "_law_counted_right" ["box", "calendar", "first", "by_name"] Q_law_counted_right) (F__law_refused_right : Fn T 6 "_law_refused_right" ["box", "calendar", "by_name"] Q_law_refused_right) (F__law_tests_right : Fn T 6 "_law_tests_right" ["box", "calendar"] Q_law_tests_right) (F__law_great_right : Fn T 6 "_law_great_right" ["box", "calendar", "by_name"] Q_law_great_right) (F__law_same : Fn T 5 "_law_same" ["given", "due"] Q_law_same) (F__law_door : Fn T 5 "_law_door" ["which", "calendar", "first", "last", "by_name"] Q_law_door) (F__law_due : Fn T 2 "_law_due" ["which", "calendar", "first", "last"] Q_law_due) {f cdv A outer s H E W n0 hr hgd} : MSs (jOf T "law" st_law f cdv N_law sc_law.nd 6 A outer s H E W n0 hr hgd) (defBody st_law) B_law :=
  (ms_cons (ms_own 1 (ml_disp ma_nil))
    (ms_cons (ms_for [] (mi_range1 rfl G.b_range (ma_cons (me_b (cb_max rfl) rfl G.b_max rfl (mh_cons me_int (mh_cons (me_b (cb_min rfl) rfl G.b_min rfl (mh_cons me_int (mh_cons (me_b cb_len rfl G.b_len rfl (mh_cons (me_var 0) mh_nil)) mh_nil))) mh_nil))) ma_nil)) (mp_name 2) (ms_cons (ms_set 3 (me_call F__law_box rfl (Nat.le_of_ble_eq_true rfl) rfl (ma_cons (me_call F__law_cell rfl (Nat.le_of_ble_eq_true rfl) rfl (ma_cons (me_var 0) (ma_cons (me_var 2) ma_nil))) ma_nil)))
    (ms_cons (ms_par3 4 5 6 rfl (ma_cons (me_cmp (od_eq rfl) (me_call F__law_take rfl (Nat.le_of_ble_eq_true rfl) rfl (ma_cons (me_var 3) (ma_cons me_int ma_nil))) me_int (nomark _)) (ma_cons (me_call F__law_take rfl (Nat.le_of_ble_eq_true rfl) rfl (ma_cons (me_var 3) (ma_cons me_int ma_nil))) (ma_cons (me_call F__law_calendar rfl (Nat.le_of_ble_eq_true rfl) rfl (ma_cons (me_var 3) ma_nil)) ma_nil))))
    (ms_cons (ms_if (mt_w (mw_and (mt_cmp (od_eq rfl) (me_var 5) me_int (nomark _)) (mw_and1 (mt_not (mt_tru (me_call F__law_refused_right rfl (Nat.le_of_ble_eq_true rfl) rfl (ma_cons (me_var 3) (ma_cons (me_var 6) (ma_cons (me_var 4) ma_nil))))))))) (ms_cons (ms_ret me_bl)
    ms_nil) ms_nil)
    (ms_cons (ms_if (mt_w (mw_or (mt_not (mt_tru (me_call F__law_tests_right rfl (Nat.le_of_ble_eq_true rfl) rfl (ma_cons (me_var 3) (ma_cons (me_var 6) ma_nil))))) (mw_or1 (mt_not (mt_tru (me_call F__law_great_right rfl (Nat.le_of_ble_eq_true rfl) rfl (ma_cons (me_var 3) (ma_cons (me_var 6) (ma_cons (me_var 4) ma_nil))))))))) (ms_cons (ms_ret me_bl)
    ms_nil) ms_nil)
    (ms_cons (ms_if (mt_not (mt_tru (me_call F__law_counted_right rfl (Nat.le_of_ble_eq_true rfl) rfl (ma_cons (me_var 3) (ma_cons (me_var 6) (ma_cons (me_if (mt_cmp od_gt (me_var 2) me_int (nomark _)) (me_call F__law_take rfl (Nat.le_of_ble_eq_true rfl) rfl (ma_cons (me_var 3) (ma_cons me_int ma_nil))) (me_call F__law_take rfl (Nat.le_of_ble_eq_true rfl) rfl (ma_cons (me_var 3) (ma_cons me_int ma_nil)))) (ma_cons (me_var 4) ma_nil))))))) (ms_cons (ms_ret me_bl)
    ms_nil) ms_nil)
    (ms_cons (ms_if (mt_w (mw_and (mt_cmp (od_eq rfl) (me_var 5) me_int (nomark _)) (mw_and1 (mt_not (mt_tru (me_call F__law_refused_right rfl (Nat.le_of_ble_eq_true rfl) rfl (ma_cons (me_var 3) (ma_cons (me_var 6) (ma_cons (me_var 4) ma_nil))))))))) (ms_cons (ms_ret me_bl)
    ms_nil) ms_nil)
    (ms_cons (ms_x (mx_mut 1 mu_append PySem.F.slot_list_append PySem.F.type_list_append (ma_cons (me_frz (ml_disp (ma_cons (me_var 6) (ma_cons (me_call F__law_take rfl (Nat.le_of_ble_eq_true rfl) rfl (ma_cons (me_var 3) (ma_cons me_int ma_nil))) (ma_cons (me_call F__law_take rfl (Nat.le_of_ble_eq_true rfl) rfl (ma_cons (me_var 3) (ma_cons me_int ma_nil))) ma_nil))))) ma_nil)))
    ms_nil))))))) rfl)
    (ms_frz 1 (ms_cons (ms_for [] (mi_data (me_var 1)) (mp_tup (mps_cons (mp_name 6) (mps_cons (mp_name 7) (mps_cons (mp_name 8) mps_nil))) rfl) (ms_cons (ms_for [] (mi_range1 rfl G.b_range (ma_cons me_int ma_nil)) (mp_name 9) (ms_cons (ms_if (mt_not (mt_tru (me_call F__law_same rfl (Nat.le_of_ble_eq_true rfl) rfl (ma_cons (me_call F__law_door rfl (Nat.le_of_ble_eq_true rfl) rfl (ma_cons (me_var 9) (ma_cons (me_var 6) (ma_cons (me_var 7) (ma_cons (me_var 8) (ma_cons (me_cmp (od_eq rfl) (me_var 9) me_int (nomark _)) ma_nil)))))) (ma_cons (me_call F__law_due rfl (Nat.le_of_ble_eq_true rfl) rfl (ma_cons (me_var 9) (ma_cons (me_var 6) (ma_cons (me_var 7) (ma_cons (me_var 8) ma_nil))))) ma_nil))))) (ms_cons (ms_ret me_bl)
    ms_nil) ms_nil)
    ms_nil) rfl)
    ms_nil) rfl)
    (ms_cons (ms_ret me_bl)
    ms_nil)))))
end
end K43

namespace K43
open PySem L2 PySem.Spec PyProof.Rows DL
def clsX (C_InvalidCalendars C_InvalidDuration C_InvalidEnd C_InvalidStart : Addr) (c : String) : Option Addr := if c = "InvalidCalendars" then some C_InvalidCalendars else if c = "InvalidDuration" then some C_InvalidDuration else if c = "InvalidEnd" then some C_InvalidEnd else if c = "InvalidStart" then some C_InvalidStart else none
def attX (c : String) : Option Str := if c = "InvalidCalendars" then some "given" else if c = "InvalidDuration" then some "given" else if c = "InvalidEnd" then some "given" else if c = "InvalidStart" then some "given" else none
theorem clsX_all {C_InvalidCalendars C_InvalidDuration C_InvalidEnd C_InvalidStart : Addr} {p : String → Addr → Prop} (h_InvalidCalendars : p "InvalidCalendars" C_InvalidCalendars) (h_InvalidDuration : p "InvalidDuration" C_InvalidDuration) (h_InvalidEnd : p "InvalidEnd" C_InvalidEnd) (h_InvalidStart : p "InvalidStart" C_InvalidStart) : ∀ c C, clsX C_InvalidCalendars C_InvalidDuration C_InvalidEnd C_InvalidStart c = some C → p c C := by
  intro c C h
  unfold clsX at h
  split at h
  · rename_i e; cases h; rw [e]; exact h_InvalidCalendars
  split at h
  · rename_i e; cases h; rw [e]; exact h_InvalidDuration
  split at h
  · rename_i e; cases h; rw [e]; exact h_InvalidEnd
  split at h
  · rename_i e; cases h; rw [e]; exact h_InvalidStart
  cases h
set_option linter.all false in
theorem all_mk {P : Program} {w : World} {K : PySem.W.Frag} {h : Heap} {mg : Str → Option Value} {fa : Addr} {fa__law_box : Addr} {oc__law_box kV__law_box dc__law_box pm__law_box cd__law_box ct__law_box : Value} {od__law_box an__law_box : Option Addr} {sl__law_box : Array (Option Value)}
    {fa__law_cell : Addr} {oc__law_cell kV__law_cell dc__law_cell pm__law_cell cd__law_cell ct__law_cell : Value} {od__law_cell an__law_cell : Option Addr} {sl__law_cell : Array (Option Value)}
    {fa__law_take : Addr} {oc__law_take kV__law_take dc__law_take pm__law_take cd__law_take ct__law_take : Value} {od__law_take an__law_take : Option Addr} {sl__law_take : Array (Option Value)}
    {fa__law_calendar : Addr} {oc__law_calendar kV__law_calendar dc__law_calendar pm__law_calendar cd__law_calendar ct__law_calendar : Value} {od__law_calendar an__law_calendar : Option Addr} {sl__law_calendar : Array (Option Value)}
    {fa__law_same : Addr} {oc__law_same kV__law_same dc__law_same pm__law_same cd__law_same ct__law_same : Value} {od__law_same an__law_same : Option Addr} {sl__law_same : Array (Option Value)}
    {fa_is_integer : Addr} {oc_is_integer kV_is_integer dc_is_integer pm_is_integer cd_is_integer ct_is_integer : Value} {od_is_integer an_is_integer : Option Addr} {sl_is_integer : Array (Option Value)}
    {fa_is_calendar : Addr} {oc_is_calendar kV_is_calendar dc_is_calendar pm_is_calendar cd_is_calendar ct_is_calendar : Value} {od_is_calendar an_is_calendar : Option Addr} {sl_is_calendar : Array (Option Value)}
    {fa_check_calendar : Addr} {oc_check_calendar kV_check_calendar dc_check_calendar pm_check_calendar cd_check_calendar ct_check_calendar : Value} {od_check_calendar an_check_calendar : Option Addr} {sl_check_calendar : Array (Option Value)}
    {fa_is_count : Addr} {oc_is_count kV_is_count dc_is_count pm_is_count cd_is_count ct_is_count : Value} {od_is_count an_is_count : Option Addr} {sl_is_count : Array (Option Value)}
    {fa_days_until : Addr} {oc_days_until kV_days_until dc_days_until pm_days_until cd_days_until ct_days_until : Value} {od_days_until an_days_until : Option Addr} {sl_days_until : Array (Option Value)}
    {fa_time_of_day : Addr} {oc_time_of_day kV_time_of_day dc_time_of_day pm_time_of_day cd_time_of_day ct_time_of_day : Value} {od_time_of_day an_time_of_day : Option Addr} {sl_time_of_day : Array (Option Value)}
    {fa_begun_at : Addr} {oc_begun_at kV_begun_at dc_begun_at pm_begun_at cd_begun_at ct_begun_at : Value} {od_begun_at an_begun_at : Option Addr} {sl_begun_at : Array (Option Value)}
    {fa_begun : Addr} {oc_begun kV_begun dc_begun pm_begun cd_begun ct_begun : Value} {od_begun an_begun : Option Addr} {sl_begun : Array (Option Value)}
    {fa_worked : Addr} {oc_worked kV_worked dc_worked pm_worked cd_worked ct_worked : Value} {od_worked an_worked : Option Addr} {sl_worked : Array (Option Value)}
    {fa_done_at : Addr} {oc_done_at kV_done_at dc_done_at pm_done_at cd_done_at ct_done_at : Value} {od_done_at an_done_at : Option Addr} {sl_done_at : Array (Option Value)}
    {fa_done : Addr} {oc_done kV_done dc_done pm_done cd_done ct_done : Value} {od_done an_done : Option Addr} {sl_done : Array (Option Value)}
    {fa__law_door : Addr} {oc__law_door kV__law_door dc__law_door pm__law_door cd__law_door ct__law_door : Value} {od__law_door an__law_door : Option Addr} {sl__law_door : Array (Option Value)}
    {fa__law_counted_right : Addr} {oc__law_counted_right kV__law_counted_right dc__law_counted_right pm__law_counted_right cd__law_counted_right ct__law_counted_right : Value} {od__law_counted_right an__law_counted_right : Option Addr} {sl__law_counted_right : Array (Option Value)}
    {fa__law_bad_calendar : Addr} {oc__law_bad_calendar kV__law_bad_calendar dc__law_bad_calendar pm__law_bad_calendar cd__law_bad_calendar ct__law_bad_calendar : Value} {od__law_bad_calendar an__law_bad_calendar : Option Addr} {sl__law_bad_calendar : Array (Option Value)}
    {fa__law_copy : Addr} {oc__law_copy kV__law_copy dc__law_copy pm__law_copy cd__law_copy ct__law_copy : Value} {od__law_copy an__law_copy : Option Addr} {sl__law_copy : Array (Option Value)}
    {fa__law_is_int : Addr} {oc__law_is_int kV__law_is_int dc__law_is_int pm__law_is_int cd__law_is_int ct__law_is_int : Value} {od__law_is_int an__law_is_int : Option Addr} {sl__law_is_int : Array (Option Value)}
    {fa__law_is_calendar : Addr} {oc__law_is_calendar kV__law_is_calendar dc__law_is_calendar pm__law_is_calendar cd__law_is_calendar ct__law_is_calendar : Value} {od__law_is_calendar an__law_is_calendar : Option Addr} {sl__law_is_calendar : Array (Option Value)}
    {fa__law_grown : Addr} {oc__law_grown kV__law_grown dc__law_grown pm__law_grown cd__law_grown ct__law_grown : Value} {od__law_grown an__law_grown : Option Addr} {sl__law_grown : Array (Option Value)}
    {fa__law_refused_right : Addr} {oc__law_refused_right kV__law_refused_right dc__law_refused_right pm__law_refused_right cd__law_refused_right ct__law_refused_right : Value} {od__law_refused_right an__law_refused_right : Option Addr} {sl__law_refused_right : Array (Option Value)}
    {fa__law_tests_right : Addr} {oc__law_tests_right kV__law_tests_right dc__law_tests_right pm__law_tests_right cd__law_tests_right ct__law_tests_right : Value} {od__law_tests_right an__law_tests_right : Option Addr} {sl__law_tests_right : Array (Option Value)}
    {fa__law_worked : Addr} {oc__law_worked kV__law_worked dc__law_worked pm__law_worked cd__law_worked ct__law_worked : Value} {od__law_worked an__law_worked : Option Addr} {sl__law_worked : Array (Option Value)}
    {fa__law_done : Addr} {oc__law_done kV__law_done dc__law_done pm__law_done cd__law_done ct__law_done : Value} {od__law_done an__law_done : Option Addr} {sl__law_done : Array (Option Value)}
    {fa__law_begun : Addr} {oc__law_begun kV__law_begun dc__law_begun pm__law_begun cd__law_begun ct__law_begun : Value} {od__law_begun an__law_begun : Option Addr} {sl__law_begun : Array (Option Value)}
    {fa__law_due : Addr} {oc__law_due kV__law_due dc__law_due pm__law_due cd__law_due ct__law_due : Value} {od__law_due an__law_due : Option Addr} {sl__law_due : Array (Option Value)}
    {fa__law_great_right : Addr} {oc__law_great_right kV__law_great_right dc__law_great_right pm__law_great_right cd__law_great_right ct__law_great_right : Value} {od__law_great_right an__law_great_right : Option Addr} {sl__law_great_right : Array (Option Value)}
    {fa_law : Addr} {oc_law kV_law dc_law pm_law cd_law ct_law : Value} {od_law an_law : Option Addr} {sl_law : Array (Option Value)}
    {t_MOST_DAYS : Tok}
    {C_InvalidCalendars : Addr}
    {C_InvalidDuration : Addr}
    {C_InvalidEnd : Addr}
    {C_InvalidStart : Addr}
    {C_PlanError : Addr}
    {dd_InvalidCalendars : Option Addr} {cC_InvalidCalendars : ClassData} {sC_InvalidCalendars : Array (Option Value)} {I_InvalidCalendars : Addr} {oI_InvalidCalendars kI_InvalidCalendars dI_InvalidCalendars pI_InvalidCalendars nI_InvalidCalendars tI_InvalidCalendars : Value} {xI_InvalidCalendars yI_InvalidCalendars : Option Addr} {zI_InvalidCalendars : Array (Option Value)}
    {dd_InvalidDuration : Option Addr} {cC_InvalidDuration : ClassData} {sC_InvalidDuration : Array (Option Value)} {I_InvalidDuration : Addr} {oI_InvalidDuration kI_InvalidDuration dI_InvalidDuration pI_InvalidDuration nI_InvalidDuration tI_InvalidDuration : Value} {xI_InvalidDuration yI_InvalidDuration : Option Addr} {zI_InvalidDuration : Array (Option Value)}
    {dd_InvalidEnd : Option Addr} {cC_InvalidEnd : ClassData} {sC_InvalidEnd : Array (Option Value)} {I_InvalidEnd : Addr} {oI_InvalidEnd kI_InvalidEnd dI_InvalidEnd pI_InvalidEnd nI_InvalidEnd tI_InvalidEnd : Value} {xI_InvalidEnd yI_InvalidEnd : Option Addr} {zI_InvalidEnd : Array (Option Value)}
    {dd_InvalidStart : Option Addr} {cC_InvalidStart : ClassData} {sC_InvalidStart : Array (Option Value)} {I_InvalidStart : Addr} {oI_InvalidStart kI_InvalidStart dI_InvalidStart pI_InvalidStart nI_InvalidStart tI_InvalidStart : Value} {xI_InvalidStart yI_InvalidStart : Option Addr} {zI_InvalidStart : Array (Option Value)}
    (X : K.In h) (G : h.Ns mainGlobals mg) (hfa : mg "law" = some (.ref fa))
    (a__law_box : PySem.W.nsIn K mainGlobals "_law_box" = some (some (.ref fa__law_box)))
    (l__law_box : K.lookup fa__law_box = some ⟨oc__law_box, od__law_box, .func (PySem.W.fnOf "_law_box" "_law_box" (defArgs st__law_box) (defBody st__law_box) (defScope st__law_box) .none kV__law_box dc__law_box pm__law_box an__law_box cd__law_box ct__law_box), sl__law_box⟩)
    (c__law_box : PySem.W.codeIn K cd__law_box "_law_box" = true)
    (k__law_box : PySem.W.keepIn K (.ref fa__law_box) = true)
    (a__law_cell : PySem.W.nsIn K mainGlobals "_law_cell" = some (some (.ref fa__law_cell)))
    (l__law_cell : K.lookup fa__law_cell = some ⟨oc__law_cell, od__law_cell, .func (PySem.W.fnOf "_law_cell" "_law_cell" (defArgs st__law_cell) (defBody st__law_cell) (defScope st__law_cell) .none kV__law_cell dc__law_cell pm__law_cell an__law_cell cd__law_cell ct__law_cell), sl__law_cell⟩)
    (c__law_cell : PySem.W.codeIn K cd__law_cell "_law_cell" = true)
    (k__law_cell : PySem.W.keepIn K (.ref fa__law_cell) = true)
    (a__law_take : PySem.W.nsIn K mainGlobals "_law_take" = some (some (.ref fa__law_take)))
    (l__law_take : K.lookup fa__law_take = some ⟨oc__law_take, od__law_take, .func (PySem.W.fnOf "_law_take" "_law_take" (defArgs st__law_take) (defBody st__law_take) (defScope st__law_take) .none kV__law_take dc__law_take pm__law_take an__law_take cd__law_take ct__law_take), sl__law_take⟩)
    (c__law_take : PySem.W.codeIn K cd__law_take "_law_take" = true)
    (k__law_take : PySem.W.keepIn K (.ref fa__law_take) = true)
    (a__law_calendar : PySem.W.nsIn K mainGlobals "_law_calendar" = some (some (.ref fa__law_calendar)))
    (l__law_calendar : K.lookup fa__law_calendar = some ⟨oc__law_calendar, od__law_calendar, .func (PySem.W.fnOf "_law_calendar" "_law_calendar" (defArgs st__law_calendar) (defBody st__law_calendar) (defScope st__law_calendar) .none kV__law_calendar dc__law_calendar pm__law_calendar an__law_calendar cd__law_calendar ct__law_calendar), sl__law_calendar⟩)
    (c__law_calendar : PySem.W.codeIn K cd__law_calendar "_law_calendar" = true)
    (k__law_calendar : PySem.W.keepIn K (.ref fa__law_calendar) = true)
    (a__law_same : PySem.W.nsIn K mainGlobals "_law_same" = some (some (.ref fa__law_same)))
    (l__law_same : K.lookup fa__law_same = some ⟨oc__law_same, od__law_same, .func (PySem.W.fnOf "_law_same" "_law_same" (defArgs st__law_same) (defBody st__law_same) (defScope st__law_same) .none kV__law_same dc__law_same pm__law_same an__law_same cd__law_same ct__law_same), sl__law_same⟩)
    (c__law_same : PySem.W.codeIn K cd__law_same "_law_same" = true)
    (k__law_same : PySem.W.keepIn K (.ref fa__law_same) = true)
    (a_is_integer : PySem.W.nsIn K mainGlobals "is_integer" = some (some (.ref fa_is_integer)))
    (l_is_integer : K.lookup fa_is_integer = some ⟨oc_is_integer, od_is_integer, .func (PySem.W.fnOf "is_integer" "is_integer" (defArgs st_is_integer) (defBody st_is_integer) (defScope st_is_integer) .none kV_is_integer dc_is_integer pm_is_integer an_is_integer cd_is_integer ct_is_integer), sl_is_integer⟩)
    (c_is_integer : PySem.W.codeIn K cd_is_integer "is_integer" = true)
    (k_is_integer : PySem.W.keepIn K (.ref fa_is_integer) = true)
    (a_is_calendar : PySem.W.nsIn K mainGlobals "is_calendar" = some (some (.ref fa_is_calendar)))
    (l_is_calendar : K.lookup fa_is_calendar = some ⟨oc_is_calendar, od_is_calendar, .func (PySem.W.fnOf "is_calendar" "is_calendar" (defArgs st_is_calendar) (defBody st_is_calendar) (defScope st_is_calendar) .none kV_is_calendar dc_is_calendar pm_is_calendar an_is_calendar cd_is_calendar ct_is_calendar), sl_is_calendar⟩)
    (c_is_calendar : PySem.W.codeIn K cd_is_calendar "is_calendar" = true)
    (k_is_calendar : PySem.W.keepIn K (.ref fa_is_calendar) = true)
    (a_check_calendar : PySem.W.nsIn K mainGlobals "check_calendar" = some (some (.ref fa_check_calendar)))
    (l_check_calendar : K.lookup fa_check_calendar = some ⟨oc_check_calendar, od_check_calendar, .func (PySem.W.fnOf "check_calendar" "check_calendar" (defArgs st_check_calendar) (defBody st_check_calendar) (defScope st_check_calendar) .none kV_check_calendar dc_check_calendar pm_check_calendar an_check_calendar cd_check_calendar ct_check_calendar), sl_check_calendar⟩)
    (c_check_calendar : PySem.W.codeIn K cd_check_calendar "check_calendar" = true)
    (k_check_calendar : PySem.W.keepIn K (.ref fa_check_calendar) = true)
    (a_is_count : PySem.W.nsIn K mainGlobals "is_count" = some (some (.ref fa_is_count)))
    (l_is_count : K.lookup fa_is_count = some ⟨oc_is_count, od_is_count, .func (PySem.W.fnOf "is_count" "is_count" (defArgs st_is_count) (defBody st_is_count) (defScope st_is_count) .none kV_is_count dc_is_count pm_is_count an_is_count cd_is_count ct_is_count), sl_is_count⟩)
    (c_is_count : PySem.W.codeIn K cd_is_count "is_count" = true)
    (k_is_count : PySem.W.keepIn K (.ref fa_is_count) = true)
    (a_days_until : PySem.W.nsIn K mainGlobals "days_until" = some (some (.ref fa_days_until)))
    (l_days_until : K.lookup fa_days_until = some ⟨oc_days_until, od_days_until, .func (PySem.W.fnOf "days_until" "days_until" (defArgs st_days_until) (defBody st_days_until) (defScope st_days_until) .none kV_days_until dc_days_until pm_days_until an_days_until cd_days_until ct_days_until), sl_days_until⟩)
    (c_days_until : PySem.W.codeIn K cd_days_until "days_until" = true)
    (k_days_until : PySem.W.keepIn K (.ref fa_days_until) = true)
    (a_time_of_day : PySem.W.nsIn K mainGlobals "time_of_day" = some (some (.ref fa_time_of_day)))
    (l_time_of_day : K.lookup fa_time_of_day = some ⟨oc_time_of_day, od_time_of_day, .func (PySem.W.fnOf "time_of_day" "time_of_day" (defArgs st_time_of_day) (defBody st_time_of_day) (defScope st_time_of_day) .none kV_time_of_day dc_time_of_day pm_time_of_day an_time_of_day cd_time_of_day ct_time_of_day), sl_time_of_day⟩)
    (c_time_of_day : PySem.W.codeIn K cd_time_of_day "time_of_day" = true)
    (k_time_of_day : PySem.W.keepIn K (.ref fa_time_of_day) = true)
    (a_begun_at : PySem.W.nsIn K mainGlobals "begun_at" = some (some (.ref fa_begun_at)))
    (l_begun_at : K.lookup fa_begun_at = some ⟨oc_begun_at, od_begun_at, .func (PySem.W.fnOf "begun_at" "begun_at" (defArgs st_begun_at) (defBody st_begun_at) (defScope st_begun_at) .none kV_begun_at dc_begun_at pm_begun_at an_begun_at cd_begun_at ct_begun_at), sl_begun_at⟩)
    (c_begun_at : PySem.W.codeIn K cd_begun_at "begun_at" = true)
    (k_begun_at : PySem.W.keepIn K (.ref fa_begun_at) = true)
    (a_begun : PySem.W.nsIn K mainGlobals "begun" = some (some (.ref fa_begun)))
    (l_begun : K.lookup fa_begun = some ⟨oc_begun, od_begun, .func (PySem.W.fnOf "begun" "begun" (defArgs st_begun) (defBody st_begun) (defScope st_begun) .none kV_begun dc_begun pm_begun an_begun cd_begun ct_begun), sl_begun⟩)
    (c_begun : PySem.W.codeIn K cd_begun "begun" = true)
    (k_begun : PySem.W.keepIn K (.ref fa_begun) = true)
    (a_worked : PySem.W.nsIn K mainGlobals "worked" = some (some (.ref fa_worked)))
    (l_worked : K.lookup fa_worked = some ⟨oc_worked, od_worked, .func (PySem.W.fnOf "worked" "worked" (defArgs st_worked) (defBody st_worked) (defScope st_worked) .none kV_worked dc_worked pm_worked an_worked cd_worked ct_worked), sl_worked⟩)
    (c_worked : PySem.W.codeIn K cd_worked "worked" = true)
    (k_worked : PySem.W.keepIn K (.ref fa_worked) = true)
    (a_done_at : PySem.W.nsIn K mainGlobals "done_at" = some (some (.ref fa_done_at)))
    (l_done_at : K.lookup fa_done_at = some ⟨oc_done_at, od_done_at, .func (PySem.W.fnOf "done_at" "done_at" (defArgs st_done_at) (defBody st_done_at) (defScope st_done_at) .none kV_done_at dc_done_at pm_done_at an_done_at cd_done_at ct_done_at), sl_done_at⟩)
    (c_done_at : PySem.W.codeIn K cd_done_at "done_at" = true)
    (k_done_at : PySem.W.keepIn K (.ref fa_done_at) = true)
    (a_done : PySem.W.nsIn K mainGlobals "done" = some (some (.ref fa_done)))
    (l_done : K.lookup fa_done = some ⟨oc_done, od_done, .func (PySem.W.fnOf "done" "done" (defArgs st_done) (defBody st_done) (defScope st_done) .none kV_done dc_done pm_done an_done cd_done ct_done), sl_done⟩)
    (c_done : PySem.W.codeIn K cd_done "done" = true)
    (k_done : PySem.W.keepIn K (.ref fa_done) = true)
    (a__law_door : PySem.W.nsIn K mainGlobals "_law_door" = some (some (.ref fa__law_door)))
    (l__law_door : K.lookup fa__law_door = some ⟨oc__law_door, od__law_door, .func (PySem.W.fnOf "_law_door" "_law_door" (defArgs st__law_door) (defBody st__law_door) (defScope st__law_door) .none kV__law_door dc__law_door pm__law_door an__law_door cd__law_door ct__law_door), sl__law_door⟩)
    (c__law_door : PySem.W.codeIn K cd__law_door "_law_door" = true)
    (k__law_door : PySem.W.keepIn K (.ref fa__law_door) = true)
    (a__law_counted_right : PySem.W.nsIn K mainGlobals "_law_counted_right" = some (some (.ref fa__law_counted_right)))
    (l__law_counted_right : K.lookup fa__law_counted_right = some ⟨oc__law_counted_right, od__law_counted_right, .func (PySem.W.fnOf "_law_counted_right" "_law_counted_right" (defArgs st__law_counted_right) (defBody st__law_counted_right) (defScope st__law_counted_right) .none kV__law_counted_right dc__law_counted_right pm__law_counted_right an__law_counted_right cd__law_counted_right ct__law_counted_right), sl__law_counted_right⟩)
    (c__law_counted_right : PySem.W.codeIn K cd__law_counted_right "_law_counted_right" = true)
    (k__law_counted_right : PySem.W.keepIn K (.ref fa__law_counted_right) = true)
    (a__law_bad_calendar : PySem.W.nsIn K mainGlobals "_law_bad_calendar" = some (some (.ref fa__law_bad_calendar)))
    (l__law_bad_calendar : K.lookup fa__law_bad_calendar = some ⟨oc__law_bad_calendar, od__law_bad_calendar, .func (PySem.W.fnOf "_law_bad_calendar" "_law_bad_calendar" (defArgs st__law_bad_calendar) (defBody st__law_bad_calendar) (defScope st__law_bad_calendar) .none kV__law_bad_calendar dc__law_bad_calendar pm__law_bad_calendar an__law_bad_calendar cd__law_bad_calendar ct__law_bad_calendar), sl__law_bad_calendar⟩)
    (c__law_bad_calendar : PySem.W.codeIn K cd__law_bad_calendar "_law_bad_calendar" = true)
    (k__law_bad_calendar : PySem.W.keepIn K (.ref fa__law_bad_calendar) = true)
    (a__law_copy : PySem.W.nsIn K mainGlobals "_law_copy" = some (some (.ref fa__law_copy)))
    (l__law_copy : K.lookup fa__law_copy = some ⟨oc__law_copy, od__law_copy, .func (PySem.W.fnOf "_law_copy" "_law_copy" (defArgs st__law_copy) (defBody st__law_copy) (defScope st__law_copy) .none kV__law_copy dc__law_copy pm__law_copy an__law_copy cd__law_copy ct__law_copy), sl__law_copy⟩)
    (c__law_copy : PySem.W.codeIn K cd__law_copy "_law_copy" = true)
    (k__law_copy : PySem.W.keepIn K (.ref fa__law_copy) = true)
    (a__law_is_int : PySem.W.nsIn K mainGlobals "_law_is_int" = some (some (.ref fa__law_is_int)))
    (l__law_is_int : K.lookup fa__law_is_int = some ⟨oc__law_is_int, od__law_is_int, .func (PySem.W.fnOf "_law_is_int" "_law_is_int" (defArgs st__law_is_int) (defBody st__law_is_int) (defScope st__law_is_int) .none kV__law_is_int dc__law_is_int pm__law_is_int an__law_is_int cd__law_is_int ct__law_is_int), sl__law_is_int⟩)
    (c__law_is_int : PySem.W.codeIn K cd__law_is_int "_law_is_int" = true)
    (k__law_is_int : PySem.W.keepIn K (.ref fa__law_is_int) = true)
    (a__law_is_calendar : PySem.W.nsIn K mainGlobals "_law_is_calendar" = some (some (.ref fa__law_is_calendar)))
    (l__law_is_calendar : K.lookup fa__law_is_calendar = some ⟨oc__law_is_calendar, od__law_is_calendar, .func (PySem.W.fnOf "_law_is_calendar" "_law_is_calendar" (defArgs st__law_is_calendar) (defBody st__law_is_calendar) (defScope st__law_is_calendar) .none kV__law_is_calendar dc__law_is_calendar pm__law_is_calendar an__law_is_calendar cd__law_is_calendar ct__law_is_calendar), sl__law_is_calendar⟩)
    (c__law_is_calendar : PySem.W.codeIn K cd__law_is_calendar "_law_is_calendar" = true)
    (k__law_is_calendar : PySem.W.keepIn K (.ref fa__law_is_calendar) = true)
    (a__law_grown : PySem.W.nsIn K mainGlobals "_law_grown" = some (some (.ref fa__law_grown)))
    (l__law_grown : K.lookup fa__law_grown = some ⟨oc__law_grown, od__law_grown, .func (PySem.W.fnOf "_law_grown" "_law_grown" (defArgs st__law_grown) (defBody st__law_grown) (defScope st__law_grown) .none kV__law_grown dc__law_grown pm__law_grown an__law_grown cd__law_grown ct__law_grown), sl__law_grown⟩)
    (c__law_grown : PySem.W.codeIn K cd__law_grown "_law_grown" = true)
    (k__law_grown : PySem.W.keepIn K (.ref fa__law_grown) = true)
    (a__law_refused_right : PySem.W.nsIn K mainGlobals "_law_refused_right" = some (some (.ref fa__law_refused_right)))
    (l__law_refused_right : K.lookup fa__law_refused_right = some ⟨oc__law_refused_right, od__law_refused_right, .func (PySem.W.fnOf "_law_refused_right" "_law_refused_right" (defArgs st__law_refused_right) (defBody st__law_refused_right) (defScope st__law_refused_right) .none kV__law_refused_right dc__law_refused_right pm__law_refused_right an__law_refused_right cd__law_refused_right ct__law_refused_right), sl__law_refused_right⟩)
    (c__law_refused_right : PySem.W.codeIn K cd__law_refused_right "_law_refused_right" = true)
    (k__law_refused_right : PySem.W.keepIn K (.ref fa__law_refused_right) = true)
    (a__law_tests_right : PySem.W.nsIn K mainGlobals "_law_tests_right" = some (some (.ref fa__law_tests_right)))
    (l__law_tests_right : K.lookup fa__law_tests_right = some ⟨oc__law_tests_right, od__law_tests_right, .func (PySem.W.fnOf "_law_tests_right" "_law_tests_right" (defArgs st__law_tests_right) (defBody st__law_tests_right) (defScope st__law_tests_right) .none kV__law_tests_right dc__law_tests_right pm__law_tests_right an__law_tests_right cd__law_tests_right ct__law_tests_right), sl__law_tests_right⟩)
    (c__law_tests_right : PySem.W.codeIn K cd__law_tests_right "_law_tests_right" = true)
    (k__law_tests_right : PySem.W.keepIn K (.ref fa__law_tests_right) = true)
    (a__law_worked : PySem.W.nsIn K mainGlobals "_law_worked" = some (some (.ref fa__law_worked)))
    (l__law_worked : K.lookup fa__law_worked = some ⟨oc__law_worked, od__law_worked, .func (PySem.W.fnOf "_law_worked" "_law_worked" (defArgs st__law_worked) (defBody st__law_worked) (defScope st__law_worked) .none kV__law_worked dc__law_worked pm__law_worked an__law_worked cd__law_worked ct__law_worked), sl__law_worked⟩)
    (c__law_worked : PySem.W.codeIn K cd__law_worked "_law_worked" = true)
    (k__law_worked : PySem.W.keepIn K (.ref fa__law_worked) = true)
    (a__law_done : PySem.W.nsIn K mainGlobals "_law_done" = some (some (.ref fa__law_done)))
    (l__law_done : K.lookup fa__law_done = some ⟨oc__law_done, od__law_done, .func (PySem.W.fnOf "_law_done" "_law_done" (defArgs st__law_done) (defBody st__law_done) (defScope st__law_done) .none kV__law_done dc__law_done pm__law_done an__law_done cd__law_done ct__law_done), sl__law_done⟩)
    (c__law_done : PySem.W.codeIn K cd__law_done "_law_done" = true)
    (k__law_done : PySem.W.keepIn K (.ref fa__law_done) = true)
    (a__law_begun : PySem.W.nsIn K mainGlobals "_law_begun" = some (some (.ref fa__law_begun)))
    (l__law_begun : K.lookup fa__law_begun = some ⟨oc__law_begun, od__law_begun, .func (PySem.W.fnOf "_law_begun" "_law_begun" (defArgs st__law_begun) (defBody st__law_begun) (defScope st__law_begun) .none kV__law_begun dc__law_begun pm__law_begun an__law_begun cd__law_begun ct__law_begun), sl__law_begun⟩)
    (c__law_begun : PySem.W.codeIn K cd__law_begun "_law_begun" = true)
    (k__law_begun : PySem.W.keepIn K (.ref fa__law_begun) = true)
    (a__law_due : PySem.W.nsIn K mainGlobals "_law_due" = some (some (.ref fa__law_due)))
    (l__law_due : K.lookup fa__law_due = some ⟨oc__law_due, od__law_due, .func (PySem.W.fnOf "_law_due" "_law_due" (defArgs st__law_due) (defBody st__law_due) (defScope st__law_due) .none kV__law_due dc__law_due pm__law_due an__law_due cd__law_due ct__law_due), sl__law_due⟩)
    (c__law_due : PySem.W.codeIn K cd__law_due "_law_due" = true)
    (k__law_due : PySem.W.keepIn K (.ref fa__law_due) = true)
    (a__law_great_right : PySem.W.nsIn K mainGlobals "_law_great_right" = some (some (.ref fa__law_great_right)))
    (l__law_great_right : K.lookup fa__law_great_right = some ⟨oc__law_great_right, od__law_great_right, .func (PySem.W.fnOf "_law_great_right" "_law_great_right" (defArgs st__law_great_right) (defBody st__law_great_right) (defScope st__law_great_right) .none kV__law_great_right dc__law_great_right pm__law_great_right an__law_great_right cd__law_great_right ct__law_great_right), sl__law_great_right⟩)
    (c__law_great_right : PySem.W.codeIn K cd__law_great_right "_law_great_right" = true)
    (k__law_great_right : PySem.W.keepIn K (.ref fa__law_great_right) = true)
    (a_law : PySem.W.nsIn K mainGlobals "law" = some (some (.ref fa_law)))
    (l_law : K.lookup fa_law = some ⟨oc_law, od_law, .func (PySem.W.fnOf "law" "law" (defArgs st_law) (defBody st_law) (defScope st_law) .none kV_law dc_law pm_law an_law cd_law ct_law), sl_law⟩)
    (c_law : PySem.W.codeIn K cd_law "law" = true)
    (k_law : PySem.W.keepIn K (.ref fa_law) = true)
    (z_abs : PySem.W.nsIn K mainGlobals "abs" = some none)
    (z_all : PySem.W.nsIn K mainGlobals "all" = some none)
    (z_bool : PySem.W.nsIn K mainGlobals "bool" = some none)
    (z_dict : PySem.W.nsIn K mainGlobals "dict" = some none)
    (z_enumerate : PySem.W.nsIn K mainGlobals "enumerate" = some none)
    (z_int : PySem.W.nsIn K mainGlobals "int" = some none)
    (z_isinstance : PySem.W.nsIn K mainGlobals "isinstance" = some none)
    (z_len : PySem.W.nsIn K mainGlobals "len" = some none)
    (z_list : PySem.W.nsIn K mainGlobals "list" = some none)
    (z_max : PySem.W.nsIn K mainGlobals "max" = some none)
    (z_min : PySem.W.nsIn K mainGlobals "min" = some none)
    (z_range : PySem.W.nsIn K mainGlobals "range" = some none)
    (z_repr : PySem.W.nsIn K mainGlobals "repr" = some none)
    (z_str : PySem.W.nsIn K mainGlobals "str" = some none)
    (z_sum : PySem.W.nsIn K mainGlobals "sum" = some none)
    (z_tuple : PySem.W.nsIn K mainGlobals "tuple" = some none)
    (v_MOST_DAYS : PySem.W.nsIn K mainGlobals "MOST_DAYS" = some (some (.int 31 t_MOST_DAYS)))
    (aC_InvalidCalendars : PySem.W.nsIn K mainGlobals "InvalidCalendars" = some (some (.ref C_InvalidCalendars)))
    (ex_InvalidCalendars : PySem.W.subIn K (.ref C_InvalidCalendars) (.type "BaseException") = some true)
    (ty_InvalidCalendars : PySem.W.typeIn K (.ref C_InvalidCalendars) = some (.type "type"))
    (hd_InvalidCalendars : PySem.W.hasDictIn K C_InvalidCalendars = true)
    (aC_InvalidDuration : PySem.W.nsIn K mainGlobals "InvalidDuration" = some (some (.ref C_InvalidDuration)))
    (ex_InvalidDuration : PySem.W.subIn K (.ref C_InvalidDuration) (.type "BaseException") = some true)
    (ty_InvalidDuration : PySem.W.typeIn K (.ref C_InvalidDuration) = some (.type "type"))
    (hd_InvalidDuration : PySem.W.hasDictIn K C_InvalidDuration = true)
    (aC_InvalidEnd : PySem.W.nsIn K mainGlobals "InvalidEnd" = some (some (.ref C_InvalidEnd)))
    (ex_InvalidEnd : PySem.W.subIn K (.ref C_InvalidEnd) (.type "BaseException") = some true)
    (ty_InvalidEnd : PySem.W.typeIn K (.ref C_InvalidEnd) = some (.type "type"))
    (hd_InvalidEnd : PySem.W.hasDictIn K C_InvalidEnd = true)
    (aC_InvalidStart : PySem.W.nsIn K mainGlobals "InvalidStart" = some (some (.ref C_InvalidStart)))
    (ex_InvalidStart : PySem.W.subIn K (.ref C_InvalidStart) (.type "BaseException") = some true)
    (ty_InvalidStart : PySem.W.typeIn K (.ref C_InvalidStart) = some (.type "type"))
    (hd_InvalidStart : PySem.W.hasDictIn K C_InvalidStart = true)
    (aC_PlanError : PySem.W.nsIn K mainGlobals "PlanError" = some (some (.ref C_PlanError)))
    (ex_PlanError : PySem.W.subIn K (.ref C_PlanError) (.type "BaseException") = some true)
    (ty_PlanError : PySem.W.typeIn K (.ref C_PlanError) = some (.type "type"))
    (hd_PlanError : PySem.W.hasDictIn K C_PlanError = true)
    (lC_InvalidCalendars : K.lookup C_InvalidCalendars = some ⟨.type "type", dd_InvalidCalendars, .cls cC_InvalidCalendars, sC_InvalidCalendars⟩)
    (qC_InvalidCalendars : oexS C_InvalidCalendars cC_InvalidCalendars sC_InvalidCalendars = true)
    (sa_InvalidCalendars : PySem.W.findIn K (.ref C_InvalidCalendars) "__setattr__" = some (some (.builtin "object.__setattr__")))
    (kC_InvalidCalendars : PySem.W.keepIn K (.ref C_InvalidCalendars) = true)
    (no_InvalidCalendars : PySem.W.findIn K (.ref C_InvalidCalendars) "given" = some none)
    (in_InvalidCalendars : PySem.W.findIn K (.ref C_InvalidCalendars) "__init__" = some (some (.ref I_InvalidCalendars)))
    (it_InvalidCalendars : PySem.W.typeIn K (.ref I_InvalidCalendars) = some (.type "function"))
    (lI_InvalidCalendars : K.lookup I_InvalidCalendars = some ⟨oI_InvalidCalendars, xI_InvalidCalendars, .func (PySem.W.fnOf "__init__" "InvalidCalendars.__init__" (defArgs (inClass (top 4) 0)) (defBody (inClass (top 4) 0)) (defScope (inClass (top 4) 0)) .none kI_InvalidCalendars dI_InvalidCalendars pI_InvalidCalendars yI_InvalidCalendars nI_InvalidCalendars tI_InvalidCalendars), zI_InvalidCalendars⟩)
    (cI_InvalidCalendars : PySem.W.codeIn K nI_InvalidCalendars "InvalidCalendars.__init__" = true)
    (kI2_InvalidCalendars : PySem.W.keepIn K (.ref I_InvalidCalendars) = true)
    (ga_InvalidCalendars : PySem.W.findIn K (.ref C_InvalidCalendars) "__getattribute__" = some (some (.builtin "BaseException.__getattribute__")))
    (gg_InvalidCalendars : PySem.W.findIn K (.ref C_InvalidCalendars) "__getattr__" = some none)
    (cl_InvalidCalendars : PySem.W.findIn K (.ref C_InvalidCalendars) "__class__" = some (some (.builtin "object.__class__")))
    (mr_InvalidCalendars : PySem.W.mroIn K C_InvalidCalendars (.type "object") = some true)
    (su_InvalidCalendars_InvalidCalendars : PySem.W.subIn K (.ref C_InvalidCalendars) (.ref C_InvalidCalendars) = some true)
    (su_InvalidCalendars_InvalidDuration : PySem.W.subIn K (.ref C_InvalidCalendars) (.ref C_InvalidDuration) = some false)
    (su_InvalidCalendars_InvalidEnd : PySem.W.subIn K (.ref C_InvalidCalendars) (.ref C_InvalidEnd) = some false)
    (su_InvalidCalendars_InvalidStart : PySem.W.subIn K (.ref C_InvalidCalendars) (.ref C_InvalidStart) = some false)
    (su_InvalidCalendars_PlanError : PySem.W.subIn K (.ref C_InvalidCalendars) (.ref C_PlanError) = some true)
    (lC_InvalidDuration : K.lookup C_InvalidDuration = some ⟨.type "type", dd_InvalidDuration, .cls cC_InvalidDuration, sC_InvalidDuration⟩)
    (qC_InvalidDuration : oexS C_InvalidDuration cC_InvalidDuration sC_InvalidDuration = true)
    (sa_InvalidDuration : PySem.W.findIn K (.ref C_InvalidDuration) "__setattr__" = some (some (.builtin "object.__setattr__")))
    (kC_InvalidDuration : PySem.W.keepIn K (.ref C_InvalidDuration) = true)
    (no_InvalidDuration : PySem.W.findIn K (.ref C_InvalidDuration) "given" = some none)
    (in_InvalidDuration : PySem.W.findIn K (.ref C_InvalidDuration) "__init__" = some (some (.ref I_InvalidDuration)))
    (it_InvalidDuration : PySem.W.typeIn K (.ref I_InvalidDuration) = some (.type "function"))
    (lI_InvalidDuration : K.lookup I_InvalidDuration = some ⟨oI_InvalidDuration, xI_InvalidDuration, .func (PySem.W.fnOf "__init__" "InvalidDuration.__init__" (defArgs (inClass (top 2) 0)) (defBody (inClass (top 2) 0)) (defScope (inClass (top 2) 0)) .none kI_InvalidDuration dI_InvalidDuration pI_InvalidDuration yI_InvalidDuration nI_InvalidDuration tI_InvalidDuration), zI_InvalidDuration⟩)
    (cI_InvalidDuration : PySem.W.codeIn K nI_InvalidDuration "InvalidDuration.__init__" = true)
    (kI2_InvalidDuration : PySem.W.keepIn K (.ref I_InvalidDuration) = true)
    (ga_InvalidDuration : PySem.W.findIn K (.ref C_InvalidDuration) "__getattribute__" = some (some (.builtin "BaseException.__getattribute__")))
    (gg_InvalidDuration : PySem.W.findIn K (.ref C_InvalidDuration) "__getattr__" = some none)
    (cl_InvalidDuration : PySem.W.findIn K (.ref C_InvalidDuration) "__class__" = some (some (.builtin "object.__class__")))
    (mr_InvalidDuration : PySem.W.mroIn K C_InvalidDuration (.type "object") = some true)
    (su_InvalidDuration_InvalidCalendars : PySem.W.subIn K (.ref C_InvalidDuration) (.ref C_InvalidCalendars) = some false)
    (su_InvalidDuration_InvalidDuration : PySem.W.subIn K (.ref C_InvalidDuration) (.ref C_InvalidDuration) = some true)
    (su_InvalidDuration_InvalidEnd : PySem.W.subIn K (.ref C_InvalidDuration) (.ref C_InvalidEnd) = some false)
    (su_InvalidDuration_InvalidStart : PySem.W.subIn K (.ref C_InvalidDuration) (.ref C_InvalidStart) = some false)
    (su_InvalidDuration_PlanError : PySem.W.subIn K (.ref C_InvalidDuration) (.ref C_PlanError) = some true)
    (lC_InvalidEnd : K.lookup C_InvalidEnd = some ⟨.type "type", dd_InvalidEnd, .cls cC_InvalidEnd, sC_InvalidEnd⟩)
    (qC_InvalidEnd : oexS C_InvalidEnd cC_InvalidEnd sC_InvalidEnd = true)
    (sa_InvalidEnd : PySem.W.findIn K (.ref C_InvalidEnd) "__setattr__" = some (some (.builtin "object.__setattr__")))
    (kC_InvalidEnd : PySem.W.keepIn K (.ref C_InvalidEnd) = true)
    (no_InvalidEnd : PySem.W.findIn K (.ref C_InvalidEnd) "given" = some none)
    (in_InvalidEnd : PySem.W.findIn K (.ref C_InvalidEnd) "__init__" = some (some (.ref I_InvalidEnd)))
    (it_InvalidEnd : PySem.W.typeIn K (.ref I_InvalidEnd) = some (.type "function"))
    (lI_InvalidEnd : K.lookup I_InvalidEnd = some ⟨oI_InvalidEnd, xI_InvalidEnd, .func (PySem.W.fnOf "__init__" "InvalidEnd.__init__" (defArgs (inClass (top 3) 0)) (defBody (inClass (top 3) 0)) (defScope (inClass (top 3) 0)) .none kI_InvalidEnd dI_InvalidEnd pI_InvalidEnd yI_InvalidEnd nI_InvalidEnd tI_InvalidEnd), zI_InvalidEnd⟩)
    (cI_InvalidEnd : PySem.W.codeIn K nI_InvalidEnd "InvalidEnd.__init__" = true)
    (kI2_InvalidEnd : PySem.W.keepIn K (.ref I_InvalidEnd) = true)
    (ga_InvalidEnd : PySem.W.findIn K (.ref C_InvalidEnd) "__getattribute__" = some (some (.builtin "BaseException.__getattribute__")))
    (gg_InvalidEnd : PySem.W.findIn K (.ref C_InvalidEnd) "__getattr__" = some none)
    (cl_InvalidEnd : PySem.W.findIn K (.ref C_InvalidEnd) "__class__" = some (some (.builtin "object.__class__")))
    (mr_InvalidEnd : PySem.W.mroIn K C_InvalidEnd (.type "object") = some true)
    (su_InvalidEnd_InvalidCalendars : PySem.W.subIn K (.ref C_InvalidEnd) (.ref C_InvalidCalendars) = some false)
    (su_InvalidEnd_InvalidDuration : PySem.W.subIn K (.ref C_InvalidEnd) (.ref C_InvalidDuration) = some false)
    (su_InvalidEnd_InvalidEnd : PySem.W.subIn K (.ref C_InvalidEnd) (.ref C_InvalidEnd) = some true)
    (su_InvalidEnd_InvalidStart : PySem.W.subIn K (.ref C_InvalidEnd) (.ref C_InvalidStart) = some false)
    (su_InvalidEnd_PlanError : PySem.W.subIn K (.ref C_InvalidEnd) (.ref C_PlanError) = some true)
    (lC_InvalidStart : K.lookup C_InvalidStart = some ⟨.type "type", dd_InvalidStart, .cls cC_InvalidStart, sC_InvalidStart⟩)
    (qC_InvalidStart : oexS C_InvalidStart cC_InvalidStart sC_InvalidStart = true)
    (sa_InvalidStart : PySem.W.findIn K (.ref C_InvalidStart) "__setattr__" = some (some (.builtin "object.__setattr__")))
    (kC_InvalidStart : PySem.W.keepIn K (.ref C_InvalidStart) = true)
    (no_InvalidStart : PySem.W.findIn K (.ref C_InvalidStart) "given" = some none)
    (in_InvalidStart : PySem.W.findIn K (.ref C_InvalidStart) "__init__" = some (some (.ref I_InvalidStart)))
    (it_InvalidStart : PySem.W.typeIn K (.ref I_InvalidStart) = some (.type "function"))
    (lI_InvalidStart : K.lookup I_InvalidStart = some ⟨oI_InvalidStart, xI_InvalidStart, .func (PySem.W.fnOf "__init__" "InvalidStart.__init__" (defArgs (inClass (top 5) 0)) (defBody (inClass (top 5) 0)) (defScope (inClass (top 5) 0)) .none kI_InvalidStart dI_InvalidStart pI_InvalidStart yI_InvalidStart nI_InvalidStart tI_InvalidStart), zI_InvalidStart⟩)
    (cI_InvalidStart : PySem.W.codeIn K nI_InvalidStart "InvalidStart.__init__" = true)
    (kI2_InvalidStart : PySem.W.keepIn K (.ref I_InvalidStart) = true)
    (ga_InvalidStart : PySem.W.findIn K (.ref C_InvalidStart) "__getattribute__" = some (some (.builtin "BaseException.__getattribute__")))
    (gg_InvalidStart : PySem.W.findIn K (.ref C_InvalidStart) "__getattr__" = some none)
    (cl_InvalidStart : PySem.W.findIn K (.ref C_InvalidStart) "__class__" = some (some (.builtin "object.__class__")))
    (mr_InvalidStart : PySem.W.mroIn K C_InvalidStart (.type "object") = some true)
    (su_InvalidStart_InvalidCalendars : PySem.W.subIn K (.ref C_InvalidStart) (.ref C_InvalidCalendars) = some false)
    (su_InvalidStart_InvalidDuration : PySem.W.subIn K (.ref C_InvalidStart) (.ref C_InvalidDuration) = some false)
    (su_InvalidStart_InvalidEnd : PySem.W.subIn K (.ref C_InvalidStart) (.ref C_InvalidEnd) = some false)
    (su_InvalidStart_InvalidStart : PySem.W.subIn K (.ref C_InvalidStart) (.ref C_InvalidStart) = some true)
    (su_InvalidStart_PlanError : PySem.W.subIn K (.ref C_InvalidStart) (.ref C_PlanError) = some true)
    (g1_PlanError : PySem.W.specialIn K (.ref C_PlanError) "__getattribute__" = some (some (.builtin "type.__getattribute__")))
    (g2_PlanError : PySem.W.readsIn K C_PlanError (.type "type") = true)
    (g3_PlanError : PySem.W.findCls K (.ref C_PlanError) (.type "type") "__init__" = some (.val (.builtin "ValueError.__init__")))
    (dn : PySem.W.specialIn K (.builtin "object.__class__") "__get__" = some (some (.builtin "getset_descriptor.__get__")))
    (dt : PySem.W.takesIn K (.builtin "object.__class__") = some true) :
    ∃ (fd : FuncData) (cls : String → Option Addr) (att : String → Option Str), (∀ (s : Shared) (v : Value), BindsTo s fd ⟨[v], []⟩ [("script", v)]) ∧ ∀ base : Heap, K.In base → base.Ns mainGlobals mg → FnG ⟨P, w, K, mg, base, cls, att⟩ 7 fa fd ["script"] (spD ⟨P, w, K, mg, base, cls, att⟩ 1 Qlaw) := by
  have e := hfa.symm.trans (PySem.W.mg_of X G a_law)
  cases e
  refine ⟨PySem.W.fnOf "law" "law" (defArgs st_law) (defBody st_law) (defScope st_law) .none kV_law dc_law pm_law an_law cd_law ct_law, clsX C_InvalidCalendars C_InvalidDuration C_InvalidEnd C_InvalidStart, attX, fun s v => .of_eq rfl, fun base _ _ => ?_⟩
  let T : DL.Tab := ⟨P, w, K, mg, base, clsX C_InvalidCalendars C_InvalidDuration C_InvalidEnd C_InvalidStart, attX⟩
  have FI_InvalidCalendars : Fun K "__init__" "InvalidCalendars.__init__" (inClass (top 4) 0) I_InvalidCalendars _ := fun_mk lI_InvalidCalendars cI_InvalidCalendars kI2_InvalidCalendars
  have SI_InvalidCalendars : FnScope ["self", "given"] ["self", "given"] (defScope (inClass (top 4) 0)) := ⟨rfl, rfl, rfl, by decide +kernel, rfl, by decide +kernel, by decide +kernel⟩
  have OI_InvalidCalendars : FnOk T.P T.w T.K T.mg T.base (L2.CX T.P T.w) 1 I_InvalidCalendars _ ["self", "given"] (spIni T.K C_InvalidCalendars "given") := ini_ok (T := T) (k := 0) FI_InvalidCalendars SI_InvalidCalendars fun cdv A outer s H E => pss_ini rfl (PySem.W.mg_of X G aC_PlanError) g1_PlanError g2_PlanError g3_PlanError
  have xf_InvalidCalendars : XfC K C_InvalidCalendars := ⟨ga_InvalidCalendars, gg_InvalidCalendars, ex_InvalidCalendars, hd_InvalidCalendars⟩
  have oe_InvalidCalendars : OexC K C_InvalidCalendars := oex_of lC_InvalidCalendars qC_InvalidCalendars sa_InvalidCalendars ex_InvalidCalendars ty_InvalidCalendars kC_InvalidCalendars
  have eC_InvalidCalendars : ExcC K C_InvalidCalendars := ⟨ga_InvalidCalendars, gg_InvalidCalendars, ex_InvalidCalendars, hd_InvalidCalendars, cl_InvalidCalendars, dn, dt, mr_InvalidCalendars⟩
  let EC_InvalidCalendars : EC T "InvalidCalendars" "InvalidCalendars" := ⟨C_InvalidCalendars, I_InvalidCalendars, _, 1, "given", "self", "given", by simp [T, clsX], by simp [T, attX], oe_InvalidCalendars, no_InvalidCalendars, in_InvalidCalendars, it_InvalidCalendars, OI_InvalidCalendars, FI_InvalidCalendars.binds (ps := ["self", "given"]) fun _ _ _ _ _ _ us hl => match us, hl with | [_, _], _ => rfl, PySem.W.mg_of X G aC_InvalidCalendars, xf_InvalidCalendars⟩
  have FI_InvalidDuration : Fun K "__init__" "InvalidDuration.__init__" (inClass (top 2) 0) I_InvalidDuration _ := fun_mk lI_InvalidDuration cI_InvalidDuration kI2_InvalidDuration
  have SI_InvalidDuration : FnScope ["self", "given"] ["self", "given"] (defScope (inClass (top 2) 0)) := ⟨rfl, rfl, rfl, by decide +kernel, rfl, by decide +kernel, by decide +kernel⟩
  have OI_InvalidDuration : FnOk T.P T.w T.K T.mg T.base (L2.CX T.P T.w) 1 I_InvalidDuration _ ["self", "given"] (spIni T.K C_InvalidDuration "given") := ini_ok (T := T) (k := 0) FI_InvalidDuration SI_InvalidDuration fun cdv A outer s H E => pss_ini rfl (PySem.W.mg_of X G aC_PlanError) g1_PlanError g2_PlanError g3_PlanError
  have xf_InvalidDuration : XfC K C_InvalidDuration := ⟨ga_InvalidDuration, gg_InvalidDuration, ex_InvalidDuration, hd_InvalidDuration⟩
  have oe_InvalidDuration : OexC K C_InvalidDuration := oex_of lC_InvalidDuration qC_InvalidDuration sa_InvalidDuration ex_InvalidDuration ty_InvalidDuration kC_InvalidDuration
  have eC_InvalidDuration : ExcC K C_InvalidDuration := ⟨ga_InvalidDuration, gg_InvalidDuration, ex_InvalidDuration, hd_InvalidDuration, cl_InvalidDuration, dn, dt, mr_InvalidDuration⟩
  let EC_InvalidDuration : EC T "InvalidDuration" "InvalidDuration" := ⟨C_InvalidDuration, I_InvalidDuration, _, 1, "given", "self", "given", by simp [T, clsX], by simp [T, attX], oe_InvalidDuration, no_InvalidDuration, in_InvalidDuration, it_InvalidDuration, OI_InvalidDuration, FI_InvalidDuration.binds (ps := ["self", "given"]) fun _ _ _ _ _ _ us hl => match us, hl with | [_, _], _ => rfl, PySem.W.mg_of X G aC_InvalidDuration, xf_InvalidDuration⟩
  have FI_InvalidEnd : Fun K "__init__" "InvalidEnd.__init__" (inClass (top 3) 0) I_InvalidEnd _ := fun_mk lI_InvalidEnd cI_InvalidEnd kI2_InvalidEnd
  have SI_InvalidEnd : FnScope ["self", "given"] ["self", "given"] (defScope (inClass (top 3) 0)) := ⟨rfl, rfl, rfl, by decide +kernel, rfl, by decide +kernel, by decide +kernel⟩
  have OI_InvalidEnd : FnOk T.P T.w T.K T.mg T.base (L2.CX T.P T.w) 1 I_InvalidEnd _ ["self", "given"] (spIni T.K C_InvalidEnd "given") := ini_ok (T := T) (k := 0) FI_InvalidEnd SI_InvalidEnd fun cdv A outer s H E => pss_ini rfl (PySem.W.mg_of X G aC_PlanError) g1_PlanError g2_PlanError g3_PlanError
  have xf_InvalidEnd : XfC K C_InvalidEnd := ⟨ga_InvalidEnd, gg_InvalidEnd, ex_InvalidEnd, hd_InvalidEnd⟩
  have oe_InvalidEnd : OexC K C_InvalidEnd := oex_of lC_InvalidEnd qC_InvalidEnd sa_InvalidEnd ex_InvalidEnd ty_InvalidEnd kC_InvalidEnd
  have eC_InvalidEnd : ExcC K C_InvalidEnd := ⟨ga_InvalidEnd, gg_InvalidEnd, ex_InvalidEnd, hd_InvalidEnd, cl_InvalidEnd, dn, dt, mr_InvalidEnd⟩
  let EC_InvalidEnd : EC T "InvalidEnd" "InvalidEnd" := ⟨C_InvalidEnd, I_InvalidEnd, _, 1, "given", "self", "given", by simp [T, clsX], by simp [T, attX], oe_InvalidEnd, no_InvalidEnd, in_InvalidEnd, it_InvalidEnd, OI_InvalidEnd, FI_InvalidEnd.binds (ps := ["self", "given"]) fun _ _ _ _ _ _ us hl => match us, hl with | [_, _], _ => rfl, PySem.W.mg_of X G aC_InvalidEnd, xf_InvalidEnd⟩
  have FI_InvalidStart : Fun K "__init__" "InvalidStart.__init__" (inClass (top 5) 0) I_InvalidStart _ := fun_mk lI_InvalidStart cI_InvalidStart kI2_InvalidStart
  have SI_InvalidStart : FnScope ["self", "given"] ["self", "given"] (defScope (inClass (top 5) 0)) := ⟨rfl, rfl, rfl, by decide +kernel, rfl, by decide +kernel, by decide +kernel⟩
  have OI_InvalidStart : FnOk T.P T.w T.K T.mg T.base (L2.CX T.P T.w) 1 I_InvalidStart _ ["self", "given"] (spIni T.K C_InvalidStart "given") := ini_ok (T := T) (k := 0) FI_InvalidStart SI_InvalidStart fun cdv A outer s H E => pss_ini rfl (PySem.W.mg_of X G aC_PlanError) g1_PlanError g2_PlanError g3_PlanError
  have xf_InvalidStart : XfC K C_InvalidStart := ⟨ga_InvalidStart, gg_InvalidStart, ex_InvalidStart, hd_InvalidStart⟩
  have oe_InvalidStart : OexC K C_InvalidStart := oex_of lC_InvalidStart qC_InvalidStart sa_InvalidStart ex_InvalidStart ty_InvalidStart kC_InvalidStart
  have eC_InvalidStart : ExcC K C_InvalidStart := ⟨ga_InvalidStart, gg_InvalidStart, ex_InvalidStart, hd_InvalidStart, cl_InvalidStart, dn, dt, mr_InvalidStart⟩
  let EC_InvalidStart : EC T "InvalidStart" "InvalidStart" := ⟨C_InvalidStart, I_InvalidStart, _, 1, "given", "self", "given", by simp [T, clsX], by simp [T, attX], oe_InvalidStart, no_InvalidStart, in_InvalidStart, it_InvalidStart, OI_InvalidStart, FI_InvalidStart.binds (ps := ["self", "given"]) fun _ _ _ _ _ _ us hl => match us, hl with | [_, _], _ => rfl, PySem.W.mg_of X G aC_InvalidStart, xf_InvalidStart⟩
  have GG : Txt T := {
      b_abs := PySem.W.mg_none_of X G z_abs
      b_all := PySem.W.mg_none_of X G z_all
      b_bool := PySem.W.mg_none_of X G z_bool
      b_dict := PySem.W.mg_none_of X G z_dict
      b_enumerate := PySem.W.mg_none_of X G z_enumerate
      b_int := PySem.W.mg_none_of X G z_int
      b_isinstance := PySem.W.mg_none_of X G z_isinstance
      b_len := PySem.W.mg_none_of X G z_len
      b_list := PySem.W.mg_none_of X G z_list
      b_max := PySem.W.mg_none_of X G z_max
      b_min := PySem.W.mg_none_of X G z_min
      b_range := PySem.W.mg_none_of X G z_range
      b_repr := PySem.W.mg_none_of X G z_repr
      b_str := PySem.W.mg_none_of X G z_str
      b_sum := PySem.W.mg_none_of X G z_sum
      b_tuple := PySem.W.mg_none_of X G z_tuple
      c_MOST_DAYS := Gd.int (PySem.W.mg_of X G v_MOST_DAYS)
      ec_InvalidCalendars := EC_InvalidCalendars
      ek_InvalidCalendars := rfl
      ec_InvalidDuration := EC_InvalidDuration
      ek_InvalidDuration := rfl
      ec_InvalidEnd := EC_InvalidEnd
      ek_InvalidEnd := rfl
      ec_InvalidStart := EC_InvalidStart
      ek_InvalidStart := rfl
      a_InvalidCalendars := C_InvalidCalendars
      m_InvalidCalendars := PySem.W.mg_of X G aC_InvalidCalendars
      ex_InvalidCalendars := clsX_all (p := fun c C => PySem.W.exmOne K (.ref C) (.ref C_InvalidCalendars) = some (subX c "InvalidCalendars")) (PySem.W.exm_ref ex_InvalidCalendars hd_InvalidCalendars ty_InvalidCalendars su_InvalidCalendars_InvalidCalendars) (PySem.W.exm_ref ex_InvalidCalendars hd_InvalidCalendars ty_InvalidCalendars su_InvalidDuration_InvalidCalendars) (PySem.W.exm_ref ex_InvalidCalendars hd_InvalidCalendars ty_InvalidCalendars su_InvalidEnd_InvalidCalendars) (PySem.W.exm_ref ex_InvalidCalendars hd_InvalidCalendars ty_InvalidCalendars su_InvalidStart_InvalidCalendars)
      a_InvalidDuration := C_InvalidDuration
      m_InvalidDuration := PySem.W.mg_of X G aC_InvalidDuration
      ex_InvalidDuration := clsX_all (p := fun c C => PySem.W.exmOne K (.ref C) (.ref C_InvalidDuration) = some (subX c "InvalidDuration")) (PySem.W.exm_ref ex_InvalidDuration hd_InvalidDuration ty_InvalidDuration su_InvalidCalendars_InvalidDuration) (PySem.W.exm_ref ex_InvalidDuration hd_InvalidDuration ty_InvalidDuration su_InvalidDuration_InvalidDuration) (PySem.W.exm_ref ex_InvalidDuration hd_InvalidDuration ty_InvalidDuration su_InvalidEnd_InvalidDuration) (PySem.W.exm_ref ex_InvalidDuration hd_InvalidDuration ty_InvalidDuration su_InvalidStart_InvalidDuration)
      a_InvalidEnd := C_InvalidEnd
      m_InvalidEnd := PySem.W.mg_of X G aC_InvalidEnd
      ex_InvalidEnd := clsX_all (p := fun c C => PySem.W.exmOne K (.ref C) (.ref C_InvalidEnd) = some (subX c "InvalidEnd")) (PySem.W.exm_ref ex_InvalidEnd hd_InvalidEnd ty_InvalidEnd su_InvalidCalendars_InvalidEnd) (PySem.W.exm_ref ex_InvalidEnd hd_InvalidEnd ty_InvalidEnd su_InvalidDuration_InvalidEnd) (PySem.W.exm_ref ex_InvalidEnd hd_InvalidEnd ty_InvalidEnd su_InvalidEnd_InvalidEnd) (PySem.W.exm_ref ex_InvalidEnd hd_InvalidEnd ty_InvalidEnd su_InvalidStart_InvalidEnd)
      a_InvalidStart := C_InvalidStart
      m_InvalidStart := PySem.W.mg_of X G aC_InvalidStart
      ex_InvalidStart := clsX_all (p := fun c C => PySem.W.exmOne K (.ref C) (.ref C_InvalidStart) = some (subX c "InvalidStart")) (PySem.W.exm_ref ex_InvalidStart hd_InvalidStart ty_InvalidStart su_InvalidCalendars_InvalidStart) (PySem.W.exm_ref ex_InvalidStart hd_InvalidStart ty_InvalidStart su_InvalidDuration_InvalidStart) (PySem.W.exm_ref ex_InvalidStart hd_InvalidStart ty_InvalidStart su_InvalidEnd_InvalidStart) (PySem.W.exm_ref ex_InvalidStart hd_InvalidStart ty_InvalidStart su_InvalidStart_InvalidStart)
      a_PlanError := C_PlanError
      m_PlanError := PySem.W.mg_of X G aC_PlanError
      is_PlanError := clsX_all (p := fun c C => ExcC K C ∧ PySem.W.kitOne K (.ref C) (.ref C_PlanError) = some (subX c "PlanError")) ⟨eC_InvalidCalendars, kit_refs hd_PlanError ty_PlanError su_InvalidCalendars_PlanError (fun _ => rfl)⟩ ⟨eC_InvalidDuration, kit_refs hd_PlanError ty_PlanError su_InvalidDuration_PlanError (fun _ => rfl)⟩ ⟨eC_InvalidEnd, kit_refs hd_PlanError ty_PlanError su_InvalidEnd_PlanError (fun _ => rfl)⟩ ⟨eC_InvalidStart, kit_refs hd_PlanError ty_PlanError su_InvalidStart_PlanError (fun _ => rfl)⟩
      xf_given := by
        intro c hc
        simp only [fld_given, Bool.or_eq_true, beq_iff_eq] at hc
        rcases hc with (((rfl | rfl) | rfl) | rfl)
        · exact ⟨C_InvalidCalendars, by simp [T, clsX], by simp [T, attX], xf_InvalidCalendars, no_InvalidCalendars⟩
        · exact ⟨C_InvalidDuration, by simp [T, clsX], by simp [T, attX], xf_InvalidDuration, no_InvalidDuration⟩
        · exact ⟨C_InvalidEnd, by simp [T, clsX], by simp [T, attX], xf_InvalidEnd, no_InvalidEnd⟩
        · exact ⟨C_InvalidStart, by simp [T, clsX], by simp [T, attX], xf_InvalidStart, no_InvalidStart⟩ }
  let F__law_box : Fn T 1 "_law_box" ["great"] Q_law_box := Fn.of (fun_mk l__law_box c__law_box k__law_box) (PySem.W.mg_of X G a__law_box) sc__law_box (by decide) (fun _ _ _ _ _ _ us hl => match us, hl with | [_], _ => rfl) fun cdv A outer s H E W n0 hr hgd => d__law_box GG  
  let F__law_cell : Fn T 1 "_law_cell" ["script", "k"] Q_law_cell := Fn.of (fun_mk l__law_cell c__law_cell k__law_cell) (PySem.W.mg_of X G a__law_cell) sc__law_cell (by decide) (fun _ _ _ _ _ _ us hl => match us, hl with | [_, _], _ => rfl) fun cdv A outer s H E W n0 hr hgd => d__law_cell GG  
  let F__law_take : Fn T 1 "_law_take" ["box", "many"] Q_law_take := Fn.of (fun_mk l__law_take c__law_take k__law_take) (PySem.W.mg_of X G a__law_take) sc__law_take (by decide) (fun _ _ _ _ _ _ us hl => match us, hl with | [_, _], _ => rfl) fun cdv A outer s H E W n0 hr hgd => d__law_take GG  
  let F__law_calendar : Fn T 2 "_law_calendar" ["box"] Q_law_calendar := Fn.of (fun_mk l__law_calendar c__law_calendar k__law_calendar) (PySem.W.mg_of X G a__law_calendar) sc__law_calendar (by decide) (fun _ _ _ _ _ _ us hl => match us, hl with | [_], _ => rfl) fun cdv A outer s H E W n0 hr hgd => d__law_calendar GG F__law_take 
  let F__law_same : Fn T 5 "_law_same" ["given", "due"] Q_law_same := Nat.rec (motive := fun n => Fn T (0 + 1 + n) "_law_same" ["given", "due"] (Q_law_same_ n)) (Fn.of (fun_mk l__law_same c__law_same k__law_same) (PySem.W.mg_of X G a__law_same) sc__law_same (by decide) (fun _ _ _ _ _ _ us hl => match us, hl with | [_, _], _ => rfl) fun cdv A outer s H E W n0 hr hgd => mss_bad)
    (fun n ih => Fn.of (fun_mk l__law_same c__law_same k__law_same) (PySem.W.mg_of X G a__law_same) sc__law_same (by decide) (fun _ _ _ _ _ _ us hl => match us, hl with | [_, _], _ => rfl) fun cdv A outer s H E W n0 hr hgd => d__law_same GG  ih  (by omega)) 4
  let F_is_integer : Fn T 1 "is_integer" ["value"] Qis_integer := Fn.of (fun_mk l_is_integer c_is_integer k_is_integer) (PySem.W.mg_of X G a_is_integer) sc_is_integer (by decide) (fun _ _ _ _ _ _ us hl => match us, hl with | [_], _ => rfl) fun cdv A outer s H E W n0 hr hgd => d_is_integer GG  
  let F_is_calendar : Fn T 2 "is_calendar" ["value"] Qis_calendar := Fn.of (fun_mk l_is_calendar c_is_calendar k_is_calendar) (PySem.W.mg_of X G a_is_calendar) sc_is_calendar (by decide) (fun _ _ _ _ _ _ us hl => match us, hl with | [_], _ => rfl) fun cdv A outer s H E W n0 hr hgd => d_is_calendar GG F_is_integer 
  let F_check_calendar : Fn T 3 "check_calendar" ["calendar"] Qcheck_calendar := Fn.of (fun_mk l_check_calendar c_check_calendar k_check_calendar) (PySem.W.mg_of X G a_check_calendar) sc_check_calendar (by decide) (fun _ _ _ _ _ _ us hl => match us, hl with | [_], _ => rfl) fun cdv A outer s H E W n0 hr hgd => d_check_calendar GG F_is_calendar 
  let F_is_count : Fn T 2 "is_count" ["value"] Qis_count := Fn.of (fun_mk l_is_count c_is_count k_is_count) (PySem.W.mg_of X G a_is_count) sc_is_count (by decide) (fun _ _ _ _ _ _ us hl => match us, hl with | [_], _ => rfl) fun cdv A outer s H E W n0 hr hgd => d_is_count GG F_is_integer 
  let F_days_until : Fn T 1 "days_until" ["calendar", "time"] Qdays_until := Fn.of (fun_mk l_days_until c_days_until k_days_until) (PySem.W.mg_of X G a_days_until) sc_days_until (by decide) (fun _ _ _ _ _ _ us hl => match us, hl with | [_, _], _ => rfl) fun cdv A outer s H E W n0 hr hgd => d_days_until GG  
  let F_time_of_day : Fn T 1 "time_of_day" ["calendar", "number"] Qtime_of_day := Fn.of (fun_mk l_time_of_day c_time_of_day k_time_of_day) (PySem.W.mg_of X G a_time_of_day) sc_time_of_day (by decide) (fun _ _ _ _ _ _ us hl => match us, hl with | [_, _], _ => rfl) fun cdv A outer s H E W n0 hr hgd => d_time_of_day GG  
  let F_begun_at : Fn T 2 "begun_at" ["calendar", "end", "duration"] Qbegun_at := Fn.of (fun_mk l_begun_at c_begun_at k_begun_at) (PySem.W.mg_of X G a_begun_at) sc_begun_at (by decide) (fun _ _ _ _ _ _ us hl => match us, hl with | [_, _, _], _ => rfl) fun cdv A outer s H E W n0 hr hgd => d_begun_at GG F_days_until F_time_of_day 
  let F_begun : Fn T 4 "begun" ["calendar", "end", "duration"] Qbegun := Fn.of (fun_mk l_begun c_begun k_begun) (PySem.W.mg_of X G a_begun) sc_begun (by decide) (fun _ _ _ _ _ _ us hl => match us, hl with | [_, _, _], _ => rfl) fun cdv A outer s H E W n0 hr hgd => d_begun GG F_check_calendar F_is_count F_begun_at 
  let F_worked : Fn T 4 "worked" ["calendar", "start", "end"] Qworked := Fn.of (fun_mk l_worked c_worked k_worked) (PySem.W.mg_of X G a_worked) sc_worked (by decide) (fun _ _ _ _ _ _ us hl => match us, hl with | [_, _, _], _ => rfl) fun cdv A outer s H E W n0 hr hgd => d_worked GG F_check_calendar F_is_count F_days_until 
  let F_done_at : Fn T 2 "done_at" ["calendar", "start", "duration"] Qdone_at := Fn.of (fun_mk l_done_at c_done_at k_done_at) (PySem.W.mg_of X G a_done_at) sc_done_at (by decide) (fun _ _ _ _ _ _ us hl => match us, hl with | [_, _, _], _ => rfl) fun cdv A outer s H E W n0 hr hgd => d_done_at GG F_time_of_day F_days_until 
  let F_done : Fn T 4 "done" ["calendar", "start", "duration"] Qdone := Fn.of (fun_mk l_done c_done k_done) (PySem.W.mg_of X G a_done) sc_done (by decide) (fun _ _ _ _ _ _ us hl => match us, hl with | [_, _, _], _ => rfl) fun cdv A outer s H E W n0 hr hgd => d_done GG F_check_calendar F_is_count F_done_at 
  have kb_worked_0_end_start_calendar : KB T.K F_worked.fd ["calendar", "start", "end"] 0 ["end", "start", "calendar"] [2, 1, 0] := KB.of (fun_mk l_worked c_worked k_worked) fun _ _ _ _ _ _ us ws h1 h2 => match us, h1, ws, h2 with | [], _, [_, _, _], _ => rfl
  have kb_done_0_duration_calendar_start : KB T.K F_done.fd ["calendar", "start", "duration"] 0 ["duration", "calendar", "start"] [1, 2, 0] := KB.of (fun_mk l_done c_done k_done) fun _ _ _ _ _ _ us ws h1 h2 => match us, h1, ws, h2 with | [], _, [_, _, _], _ => rfl
  have kb_begun_0_duration_end_calendar : KB T.K F_begun.fd ["calendar", "end", "duration"] 0 ["duration", "end", "calendar"] [2, 1, 0] := KB.of (fun_mk l_begun c_begun k_begun) fun _ _ _ _ _ _ us ws h1 h2 => match us, h1, ws, h2 with | [], _, [_, _, _], _ => rfl
  let F__law_door : Fn T 5 "_law_door" ["which", "calendar", "first", "last", "by_name"] Q_law_door := Fn.of (fun_mk l__law_door c__law_door k__law_door) (PySem.W.mg_of X G a__law_door) sc__law_door (by decide) (fun _ _ _ _ _ _ us hl => match us, hl with | [_, _, _, _, _], _ => rfl) fun cdv A outer s H E W n0 hr hgd => d__law_door GG F_begun F_worked F_done kb_worked_0_end_start_calendar kb_done_0_duration_calendar_start kb_begun_0_duration_end_calendar
  let F__law_counted_right : Fn T 6 "_law_counted_right" ["box", "calendar", "first", "by_name"] Q_law_counted_right := Fn.of (fun_mk l__law_counted_right c__law_counted_right k__law_counted_right) (PySem.W.mg_of X G a__law_counted_right) sc__law_counted_right (by decide) (fun _ _ _ _ _ _ us hl => match us, hl with | [_, _, _, _], _ => rfl) fun cdv A outer s H E W n0 hr hgd => d__law_counted_right GG F__law_take F__law_same F__law_door 
  let F__law_bad_calendar : Fn T 2 "_law_bad_calendar" ["box", "calendar"] Q_law_bad_calendar := Fn.of (fun_mk l__law_bad_calendar c__law_bad_calendar k__law_bad_calendar) (PySem.W.mg_of X G a__law_bad_calendar) sc__law_bad_calendar (by decide) (fun _ _ _ _ _ _ us hl => match us, hl with | [_, _], _ => rfl) fun cdv A outer s H E W n0 hr hgd => d__law_bad_calendar GG F__law_take 
  let F__law_copy : Fn T 5 "_law_copy" ["value"] Q_law_copy := Nat.rec (motive := fun n => Fn T (0 + 1 + n) "_law_copy" ["value"] (Q_law_copy_ n)) (Fn.of (fun_mk l__law_copy c__law_copy k__law_copy) (PySem.W.mg_of X G a__law_copy) sc__law_copy (by decide) (fun _ _ _ _ _ _ us hl => match us, hl with | [_], _ => rfl) fun cdv A outer s H E W n0 hr hgd => mss_bad)
    (fun n ih => Fn.of (fun_mk l__law_copy c__law_copy k__law_copy) (PySem.W.mg_of X G a__law_copy) sc__law_copy (by decide) (fun _ _ _ _ _ _ us hl => match us, hl with | [_], _ => rfl) fun cdv A outer s H E W n0 hr hgd => d__law_copy GG  ih  (by omega)) 4
  let F__law_is_int : Fn T 1 "_law_is_int" ["value"] Q_law_is_int := Fn.of (fun_mk l__law_is_int c__law_is_int k__law_is_int) (PySem.W.mg_of X G a__law_is_int) sc__law_is_int (by decide) (fun _ _ _ _ _ _ us hl => match us, hl with | [_], _ => rfl) fun cdv A outer s H E W n0 hr hgd => d__law_is_int GG  
  let F__law_is_calendar : Fn T 2 "_law_is_calendar" ["value"] Q_law_is_calendar := Fn.of (fun_mk l__law_is_calendar c__law_is_calendar k__law_is_calendar) (PySem.W.mg_of X G a__law_is_calendar) sc__law_is_calendar (by decide) (fun _ _ _ _ _ _ us hl => match us, hl with | [_], _ => rfl) fun cdv A outer s H E W n0 hr hgd => d__law_is_calendar GG F__law_is_int 
  let F__law_grown : Fn T 5 "_law_grown" ["value"] Q_law_grown := Nat.rec (motive := fun n => Fn T (0 + 1 + n) "_law_grown" ["value"] (Q_law_grown_ n)) (Fn.of (fun_mk l__law_grown c__law_grown k__law_grown) (PySem.W.mg_of X G a__law_grown) sc__law_grown (by decide) (fun _ _ _ _ _ _ us hl => match us, hl with | [_], _ => rfl) fun cdv A outer s H E W n0 hr hgd => mss_bad)
    (fun n ih => Fn.of (fun_mk l__law_grown c__law_grown k__law_grown) (PySem.W.mg_of X G a__law_grown) sc__law_grown (by decide) (fun _ _ _ _ _ _ us hl => match us, hl with | [_], _ => rfl) fun cdv A outer s H E W n0 hr hgd => d__law_grown GG  ih  (by omega)) 4
  let F__law_refused_right : Fn T 6 "_law_refused_right" ["box", "calendar", "by_name"] Q_law_refused_right := Fn.of (fun_mk l__law_refused_right c__law_refused_right k__law_refused_right) (PySem.W.mg_of X G a__law_refused_right) sc__law_refused_right (by decide) (fun _ _ _ _ _ _ us hl => match us, hl with | [_, _, _], _ => rfl) fun cdv A outer s H E W n0 hr hgd => d__law_refused_right GG F__law_bad_calendar F__law_door F__law_take F__law_copy F__law_is_calendar F__law_is_int F__law_grown 
  have kb_is_calendar_0_value : KB T.K F_is_calendar.fd ["value"] 0 ["value"] [0] := KB.of (fun_mk l_is_calendar c_is_calendar k_is_calendar) fun _ _ _ _ _ _ us ws h1 h2 => match us, h1, ws, h2 with | [], _, [_], _ => rfl
  let F__law_tests_right : Fn T 6 "_law_tests_right" ["box", "calendar"] Q_law_tests_right := Fn.of (fun_mk l__law_tests_right c__law_tests_right k__law_tests_right) (PySem.W.mg_of X G a__law_tests_right) sc__law_tests_right (by decide) (fun _ _ _ _ _ _ us hl => match us, hl with | [_, _], _ => rfl) fun cdv A outer s H E W n0 hr hgd => d__law_tests_right GG F__law_is_calendar F__law_bad_calendar F__law_same F_is_calendar kb_is_calendar_0_value
  let F__law_worked : Fn T 1 "_law_worked" ["calendar", "start", "end"] Q_law_worked := Fn.of (fun_mk l__law_worked c__law_worked k__law_worked) (PySem.W.mg_of X G a__law_worked) sc__law_worked (by decide) (fun _ _ _ _ _ _ us hl => match us, hl with | [_, _, _], _ => rfl) fun cdv A outer s H E W n0 hr hgd => d__law_worked GG  
  let F__law_done : Fn T 1 "_law_done" ["calendar", "start", "duration"] Q_law_done := Fn.of (fun_mk l__law_done c__law_done k__law_done) (PySem.W.mg_of X G a__law_done) sc__law_done (by decide) (fun _ _ _ _ _ _ us hl => match us, hl with | [_, _, _], _ => rfl) fun cdv A outer s H E W n0 hr hgd => d__law_done GG  
  let F__law_begun : Fn T 1 "_law_begun" ["calendar", "end", "duration"] Q_law_begun := Fn.of (fun_mk l__law_begun c__law_begun k__law_begun) (PySem.W.mg_of X G a__law_begun) sc__law_begun (by decide) (fun _ _ _ _ _ _ us hl => match us, hl with | [_, _, _], _ => rfl) fun cdv A outer s H E W n0 hr hgd => d__law_begun GG  
  let F__law_due : Fn T 2 "_law_due" ["which", "calendar", "first", "last"] Q_law_due := Fn.of (fun_mk l__law_due c__law_due k__law_due) (PySem.W.mg_of X G a__law_due) sc__law_due (by decide) (fun _ _ _ _ _ _ us hl => match us, hl with | [_, _, _, _], _ => rfl) fun cdv A outer s H E W n0 hr hgd => d__law_due GG F__law_worked F__law_done F__law_begun 
  let F__law_great_right : Fn T 6 "_law_great_right" ["box", "calendar", "by_name"] Q_law_great_right := Fn.of (fun_mk l__law_great_right c__law_great_right k__law_great_right) (PySem.W.mg_of X G a__law_great_right) sc__law_great_right (by decide) (fun _ _ _ _ _ _ us hl => match us, hl with | [_, _, _], _ => rfl) fun cdv A outer s H E W n0 hr hgd => d__law_great_right GG F__law_take F__law_due F__law_same F__law_door 
  let F_law : Fn T 7 "law" ["script"] Qlaw := Fn.of (fun_mk l_law c_law k_law) (PySem.W.mg_of X G a_law) sc_law (by decide) (fun _ _ _ _ _ _ us hl => match us, hl with | [_], _ => rfl) fun cdv A outer s H E W n0 hr hgd => d_law GG F__law_box F__law_cell F__law_take F__law_calendar F__law_counted_right F__law_refused_right F__law_tests_right F__law_great_right F__law_same F__law_door F__law_due 
  exact F_law.ok
end K43

set_option exponentiation.threshold 20000
/-! DE: how mirrors are reckoned: one step at a time, from the left. -/
namespace DL
open PySem
/-- a type that names what follows: so that a step alone is reckoned, not what follows it -/
abbrev OutT {α β : Type} (_f : α → Store → Out β) : Type := Out β
def Out.bd {α β : Type} (o : Out α) (f : α → Store → Out β) : OutT f := o.bind f
@[simp] theorem bd_ok {α β : Type} (a : α) (st : Store) (f : α → Store → Out β) : (Out.ok a st).bd f = f a st := nr rfl
@[simp] theorem bd_exc {α β : Type} (c : String) (v : D) (st : Store) (f : α → Store → Out β) : (Out.exc c v st : Out α).bd f = .exc c v st := nr rfl
@[simp] theorem bd_bad {α β : Type} (f : α → Store → Out β) : (Out.bad : Out α).bd f = .bad := nr rfl
abbrev OutU {α : Type} (_f : α → Store → OutS) : Type := OutS
def Out.bdS {α : Type} (o : Out α) (ρ : Env) (f : α → Store → OutS) : OutU f := o.bindS ρ f
@[simp] theorem bdS_ok {α : Type} (a : α) (st : Store) (ρ : Env) (f : α → Store → OutS) : (Out.ok a st).bdS ρ f = f a st := nr rfl
@[simp] theorem bdS_exc {α : Type} (c : String) (v : D) (st : Store) (ρ : Env) (f : α → Store → OutS) : (Out.exc c v st : Out α).bdS ρ f = .exc c v ρ st := nr rfl
@[simp] theorem bdS_bad {α : Type} (ρ : Env) (f : α → Store → OutS) : (Out.bad : Out α).bdS ρ f = .bad := nr rfl
abbrev SqT (_b : SF) : Type := OutS
abbrev VkT {α β : Type} (_k : α → Out β) : Type := Out β
abbrev ItT {α : Type} (_x _y : Unit → α) : Type := α
/-- what follows -/
def OutS.seq (o : OutS) (b : SF) : SqT b := match o with
  | .next ρ1 st1 => b ρ1 st1
  | o => o
section
variable {ρ ρ' : Env} {st st' : Store} {b : SF} {d : D} {c : String}
@[simp] theorem seq_next : (OutS.next ρ st).seq b = b ρ st := nr rfl
@[simp] theorem seq_ret : (OutS.ret d st).seq b = .ret d st := nr rfl
@[simp] theorem seq_brk : (OutS.brk ρ st).seq b = .brk ρ st := nr rfl
@[simp] theorem seq_cont : (OutS.cont ρ st).seq b = .cont ρ st := nr rfl
@[simp] theorem seq_exc : (OutS.exc c d ρ st).seq b = .exc c d ρ st := nr rfl
@[simp] theorem seq_bad : OutS.bad.seq b = .bad := nr rfl
end
def viewK (o : Option D) (st : Store) (k : D → Out RD) : VkT k := match o with | some d => k d | none => .bad
@[simp] theorem viewK_some {d : D} {st : Store} {k : D → Out RD} : viewK (some d) st k = k d := nr rfl
def viewsK (o : Option (List D)) (k : List D → Out RD) : VkT k := match o with | some d => k d | none => .bad
@[simp] theorem viewsK_some {d : List D} {k : List D → Out RD} : viewsK (some d) k = k d := nr rfl
def ofRD (o : Option D) (st : Store) : Out RD := match o with | some d => .ok (.d d) st | none => .bad
@[simp] theorem ofRD_some {d : D} {st : Store} : ofRD (some d) st = .ok (.d d) st := nr rfl
theorem ofRD_eq (o : Option D) (st : Store) : Out.of (o.map RD.d) st = ofRD o st := by cases o <;> rfl
section
variable {ρ : Env} {st : Store} {a b c : EF} {t t' : TF} {g g' : D → D → Option D} {u : D → Option D} {gs : List D → Option D} {F : FM} {as : AF} {hs : HF} {l : LF} {i : Nat} {d : D} {s s' : SF} {x : RD} {r : RD}
@[simp ↓] theorem eOp_eq : eOp g a b ρ st = (a ρ st).bd fun x st1 => (b ρ st1).bd fun y st2 => viewK (view ρ st2 x) st2 fun dx => viewK (view ρ st2 y) st2 fun dy => ofRD (g dx dy) st2 := by
  unfold eOp Out.bd
  congr; funext x st1; congr; funext y st2
  cases view ρ st2 x <;> cases view ρ st2 y <;> simp [viewK, ofRD_eq]
@[simp ↓] theorem eUn_eq : eUn u a ρ st = (a ρ st).bd fun x st1 => viewK (view ρ st1 x) st1 fun dx => ofRD (u dx) st1 := by
  unfold eUn Out.bd
  congr; funext x st1
  cases view ρ st1 x <;> simp [viewK, ofRD_eq]
@[simp ↓] theorem eB_eq : eB gs hs ρ st = (hs ρ st).bd fun rs st1 => viewsK (views ρ st1 rs) fun ds => ofRD (gs ds) st1 := by
  unfold eB Out.bd
  congr; funext x st1
  cases views ρ st1 x <;> simp [viewsK, ofRD_eq]
@[simp ↓] theorem eIx_eq : eIx a b ρ st = (a ρ st).bd fun x st1 => (b ρ st1).bd fun y st2 => viewK (view ρ st2 x) st2 fun dx => viewK (view ρ st2 y) st2 fun dy => ofRD (itemD dx dy) st2 := by
  unfold eIx Out.bd
  congr; funext x st1; congr; funext y st2
  cases view ρ st2 x <;> cases view ρ st2 y <;> simp [viewK, ofRD_eq]
@[simp ↓] theorem eC_eq : eC d ρ st = .ok (.d d) st := nr rfl
@[simp ↓] theorem aNil_eq : aNil ρ st = .ok [] st := nr rfl
def dK (o : Option D) (k : D → Out (List D)) : VkT k := match o with | some d => k d | none => .bad
@[simp] theorem dK_some {k : D → Out (List D)} : dK (some d) k = k d := nr rfl
@[simp ↓] theorem aCons_eq : aCons a as ρ st = (a ρ st).bd fun x st1 => dK (dOf x) fun d => (as ρ st1).bd fun ds st2 => .ok (d :: ds) st2 := by
  first
  | exact nr rfl
  | (unfold aCons dK Out.bd; rfl)
@[simp ↓] theorem hNil_eq : hNil ρ st = .ok [] st := nr rfl
@[simp ↓] theorem hCons_eq : hCons a hs ρ st = (a ρ st).bd fun x st1 => (hs ρ st1).bd fun xs st2 => .ok (x :: xs) st2 := nr rfl
def vsK (o : Option D) (p : Option (List D)) : Option (List D) := match o, p with | some d, some ds => some (d :: ds) | _, _ => none
@[simp] theorem vsK_some {ds : List D} : vsK (some d) (some ds) = some (d :: ds) := nr rfl
@[simp] theorem views_cons {rs : List RD} : views ρ st (r :: rs) = vsK (view ρ st r) (views ρ st rs) := by
  cases h1 : view ρ st r <;> cases h2 : views ρ st rs <;> simp only [views, vsK, h1, h2]
@[simp ↓] theorem eCall_eq : eCall F as ρ st = (as ρ st).bd fun ds st1 => (F ds st1).bd fun d st2 => .ok (.d d) st2 := nr rfl
@[simp ↓] theorem eCallK_eq {pm : List Nat} {ks : AF} : eCallK F pm as ks ρ st = (as ρ st).bd fun ds st1 => (ks ρ st1).bd fun es st2 => (F (pmut pm (ds ++ es)) st2).bd fun d st3 => .ok (.d d) st3 := nr rfl
@[simp ↓] theorem eTup_eq : eTup as ρ st = (as ρ st).bd fun ds st1 => if ds.length ≤ 16777216 then .ok (.d (.tup ds)) st1 else .bad := nr rfl
@[simp ↓] theorem lDisp_eq : lDisp as ρ st = (as ρ st).bd fun ds st1 => if ds.length ≤ 16777216 then .ok ds st1 else .bad := nr rfl
@[simp ↓] theorem eLst_eq : eLst l ρ st = (l ρ st).bd fun ds st1 => .ok (.d (.lst ds)) st1 := nr rfl
@[simp ↓] theorem eBox_eq : eBox l ρ st = (l ρ st).bd fun ds st1 => .ok (.d (.ref st1.length)) (st1 ++ [ds]) := nr rfl
def iteK {α : Type} (k : Bool) (x y : Unit → α) : ItT x y := if k then x () else y ()
@[simp] theorem iteK_true {α : Type} {x y : Unit → α} : iteK true x y = x () := nr rfl
@[simp] theorem iteK_false {α : Type} {x y : Unit → α} : iteK false x y = y () := nr rfl
theorem iteK_def {α : Type} {k : Bool} {x y : Unit → α} : iteK k x y = if k then x () else y () := rfl
@[simp ↓] theorem eIf_eq : eIf t a b ρ st = (t ρ st).bd fun k st1 => iteK k (fun _ => a ρ st1) (fun _ => b ρ st1) := nr rfl
def ofB (o : Option Bool) (st : Store) : Out Bool := match o with | some d => .ok d st | none => .bad
@[simp] theorem ofB_some {k : Bool} : ofB (some k) st = .ok k st := nr rfl
def viewB (o : Option D) (k : D → Out Bool) : VkT k := match o with | some d => k d | none => .bad
@[simp] theorem viewB_some {k : D → Out Bool} : viewB (some d) k = k d := nr rfl
@[simp ↓] theorem tTru_eq : tTru a ρ st = (a ρ st).bd fun x st1 => viewB (view ρ st1 x) fun d => ofB (truD d) st1 := by
  unfold tTru viewB Out.bd
  congr; funext x st1
  cases view ρ st1 x with
  | none => rfl
  | some d => simp only []; cases truD d <;> rfl
def blK (x : RD) (st : Store) : Out Bool := match x with | .d (.bl k) => .ok k st | _ => .bad
@[simp] theorem blK_bl {k : Bool} : blK (.d (.bl k)) st = .ok k st := nr rfl
@[simp ↓] theorem tVal_eq : tVal a ρ st = (a ρ st).bd fun x st1 => blK x st1 := nr rfl
@[simp ↓] theorem tAnd_eq : DL.tAnd t t' ρ st = (t ρ st).bd fun k st1 => iteK k (fun _ => t' ρ st1) (fun _ => .ok false st1) := nr rfl
@[simp ↓] theorem tOr_eq : DL.tOr t t' ρ st = (t ρ st).bd fun k st1 => iteK k (fun _ => .ok true st1) (fun _ => t' ρ st1) := nr rfl
@[simp ↓] theorem tNot_eq : DL.tNot t ρ st = (t ρ st).bd fun k st1 => .ok (!k) st1 := nr rfl
@[simp ↓] theorem tYesF_eq : tYesF ρ st = .ok true st := nr rfl
@[simp ↓] theorem eAnd_eq : eAnd a b ρ st = (a ρ st).bd fun x st1 => (blK x st1).bd fun k st2 => iteK k (fun _ => b ρ st2) (fun _ => .ok (.d (.bl false)) st2) := by
  unfold eAnd Out.bd
  congr; funext x st1
  cases x with
  | d x => cases x <;> try rfl
           rename_i k; cases k <;> rfl
  | _ => rfl
@[simp ↓] theorem eOr_eq : eOr a b ρ st = (a ρ st).bd fun x st1 => (blK x st1).bd fun k st2 => iteK k (fun _ => .ok (.d (.bl true)) st2) (fun _ => b ρ st2) := by
  unfold eOr Out.bd
  congr; funext x st1
  cases x with
  | d x => cases x <;> try rfl
           rename_i k; cases k <;> rfl
  | _ => rfl
@[simp ↓] theorem eNot_eq : eNot a ρ st = (a ρ st).bd fun x st1 => (blK x st1).bd fun k st2 => .ok (.d (.bl (!k))) st2 := by
  unfold eNot Out.bd
  congr; funext x st1
  cases x with
  | d x => cases x <;> rfl
  | _ => rfl
def eTakeK (x : RD) (st : Store) : Out D := match x with | .d d => .ok d st | _ => .bad
@[simp] theorem eTakeK_d : eTakeK (.d d) st = .ok d st := nr rfl
@[simp ↓] theorem eTake_eq : eTake a ρ st = (a ρ st).bd fun x st1 => eTakeK x st1 := by
  unfold eTake Out.bd
  congr; funext x st1
  cases x <;> rfl
@[simp ↓] theorem oNone_eq : oNone ρ st = .ok none st := nr rfl
def intK (o : Option D) (st : Store) : Out (Option Int) := match o with | some (.int i) => .ok (some i) st | _ => .bad
@[simp] theorem intK_int {i : Int} : intK (some (.int i)) st = .ok (some i) st := nr rfl
@[simp ↓] theorem oSome_eq : oSome a ρ st = (a ρ st).bd fun x st1 => intK (view ρ st1 x) st1 := nr rfl
@[simp ↓] theorem eSl_eq {f h : OF} : eSl a f h ρ st = (a ρ st).bd fun x st1 => (f ρ st1).bd fun lo st2 => (h ρ st2).bd fun hi st3 => viewK (view ρ st3 x) st3 fun d => ofRD (sliceD d lo hi) st3 := by
  unfold eSl Out.bd
  congr; funext x st1; congr; funext y st2; congr; funext z st3
  cases view ρ st3 x <;> simp [viewK, ofRD_eq]
def boK (o : Option D) (st : Store) : Out Bool := match o with | some (.bl k) => .ok k st | _ => .bad
@[simp] theorem boK_bl {k : Bool} : boK (some (.bl k)) st = .ok k st := nr rfl
@[simp ↓] theorem eChain_eq : eChain g g' a b c ρ st = (a ρ st).bd fun x st1 => (b ρ st1).bd fun y st2 => viewK (view ρ st2 x) st2 fun dx => viewK (view ρ st2 y) st2 fun dy => (boK (g dx dy) st2).bd fun k st3 =>
    iteK k (fun _ => (c ρ st3).bd fun z st4 => viewK (view ρ st4 y) st4 fun dy' => viewK (view ρ st4 z) st4 fun dz => ofRD (g' dy' dz) st4) (fun _ => .ok (.d (.bl false)) st3) := by
  unfold eChain Out.bd
  congr; funext x st1; congr; funext y st2
  cases view ρ st2 x <;> cases view ρ st2 y <;> try rfl
  rename_i dx dy
  simp only [viewK]
  cases g dx dy with
  | none => rfl
  | some d => cases d <;> try rfl
              rename_i k
              cases k with
              | false => rfl
              | true =>
                simp only [boK, Out.bind_ok, iteK, if_true]
                congr; funext z st4
                cases view ρ st4 y <;> cases view ρ st4 z <;> simp [ofRD_eq]
@[simp ↓] theorem sNil_eq : sNil ρ st = .next ρ st := nr rfl
@[simp ↓] theorem sSeq_eq : sSeq s s' ρ st = (s ρ st).seq s' := by
  unfold sSeq OutS.seq
  cases s ρ st <;> rfl
@[simp ↓] theorem sIf_eq : sIf t s s' ρ st = (t ρ st).bdS ρ fun k st1 => iteK k (fun _ => s ρ st1) (fun _ => s' ρ st1) := nr rfl
@[simp ↓] theorem sSet_eq : sSet i a ρ st = (eTake a ρ st).bdS ρ fun d st1 => .next (ρ.set i (some (.sh d))) st1 := nr rfl
@[simp ↓] theorem sOwn_eq : sOwn i l ρ st = (l ρ st).bdS ρ fun ds st1 => .next (ρ.set i (some (.o1 ds))) st1 := nr rfl
@[simp ↓] theorem sRet_eq : sRet a ρ st = (eTake a ρ st).bdS ρ fun d st1 => .ret d st1 := nr rfl
@[simp ↓] theorem sRetN_eq : sRetN ρ st = .ret .non st := nr rfl
@[simp ↓] theorem sExpr_eq : sExpr a ρ st = (a ρ st).bdS ρ fun _ st1 => .next ρ st1 := nr rfl
@[simp ↓] theorem sBrk_eq : sBrk ρ st = .brk ρ st := nr rfl
@[simp ↓] theorem sCont_eq : sCont ρ st = .cont ρ st := nr rfl
def patK (o : Option (List (Nat × D))) (ρ : Env) (st : Store) : OutS := match o with | some as => .next (setMany ρ as) st | none => .bad
@[simp] theorem patK_some {as : List (Nat × D)} : patK (some as) ρ st = .next (setMany ρ as) st := nr rfl
@[simp ↓] theorem sPat_eq {p : Pt} : sPat p a ρ st = (eTake a ρ st).bdS ρ fun d st1 => patK (pmat p d) ρ st1 := nr rfl
@[simp ↓] theorem sPar_eq {is : List Nat} : sPar is as ρ st = (as ρ st).bdS ρ fun ds st1 => .next (setMany ρ (is.zip ds)) st1 := nr rfl
@[simp] theorem setMany_nil : setMany ρ [] = ρ := nr rfl
@[simp] theorem setMany_cons {as : List (Nat × D)} : setMany ρ ((i, d) :: as) = setMany (ρ.set i (some (.sh d))) as := nr rfl
@[simp] theorem killE_nil : killE ρ [] = ρ := nr rfl
@[simp] theorem killE_cons {is : List Nat} : killE ρ (i :: is) = killE (ρ.set i none) is := nr rfl
@[simp] theorem pmat_n : pmat (.n i) d = some [(i, d)] := by simp [pmat]
@[simp ↓] theorem sRaise_eq {cn : String} : sRaise cn a ρ st = (eTake a ρ st).bdS ρ fun d st1 => .exc cn d ρ st1 := nr rfl
def OutS.run (o : OutS) : Out D := match o with
  | .next _ st1 => .ok .non st1
  | .ret d st1 => .ok d st1
  | .exc c v _ st1 => .exc c v st1
  | _ => .bad
@[simp] theorem run_next : (OutS.next ρ st).run = .ok .non st := nr rfl
@[simp] theorem run_ret : (OutS.ret d st).run = .ok d st := nr rfl
@[simp] theorem run_exc {cn : String} : (OutS.exc cn d ρ st).run = .exc cn d st := nr rfl
theorem runD_eq (n : Nat) (ds : List D) : runD n s ds st = (s (ds.map (fun d => some (.sh d)) ++ List.replicate (n - ds.length) none) st).run := by
  unfold runD OutS.run
  split <;> simp_all
@[simp] theorem eVar_sh {d : D} (h : ρ[i]? = some (some (.sh d))) : eVar i ρ st = .ok (.d d) st := by
  unfold eVar; rw [h]
@[simp] theorem eVar_o1 {xs : List D} (h : ρ[i]? = some (some (.o1 xs))) : eVar i ρ st = .ok (.sl i) st := by
  unfold eVar; rw [h]
@[simp] theorem view_sl {xs : List D} (h : ρ[i]? = some (some (.o1 xs))) : view ρ st (.sl i) = some (.lst xs) := by
  unfold view; simp only [h]
@[simp ↓] theorem eIs_eq {Ts : List String} : eIs Ts a ρ st = (a ρ st).bd fun x st1 => viewK (view ρ st1 x) st1 fun d => ofRD ((Ts.mapM fun T => isD T d).map fun bs => .bl (bs.any id)) st1 := by
  unfold eIs Out.bd
  congr; funext x st1
  cases view ρ st1 x with
  | none => rfl
  | some d => simp only [viewK]; cases (Ts.mapM fun T => isD T d) <;> rfl
end
/-- a small number: every product of two is in reach -/
def Sm (i : Int) : Prop := i.natAbs < 2 ^ 4000
theorem Sm.log {i : Int} (h : Sm i) : i.natAbs.log2 < 4000 := by
  by_cases e : i.natAbs = 0
  · rw [e]; decide
  · exact (Nat.log2_lt e).mpr h
theorem mul_ok {i j : Int} (hi : Sm i) (hj : Sm j) : mulD (.int i) (.int j) = some (.int (i * j)) := by
  have := hi.log
  have := hj.log
  simp only [mulD]
  rw [if_pos (by omega)]
theorem fdiv_ok {i j : Int} (h0 : 0 < j) (hj : Sm j) : fdivD (.int i) (.int j) = some (.int (i / j)) := by
  have := hj.log
  simp only [fdivD]
  rw [if_pos (by omega)]
theorem mod_ok {i j : Int} (h0 : 0 < j) : modD (.int i) (.int j) = some (.int (i % j)) := by
  simp only [modD]
  rw [if_pos h0]
theorem sm_int {i : Int} (h1 : -18446744073709551616 < i) (h2 : i < 18446744073709551616) : Sm i := by
  have e : (18446744073709551616 : Nat) ≤ 2 ^ 4000 := by
    rw [show (18446744073709551616 : Nat) = 2 ^ 64 from rfl]
    exact Nat.pow_le_pow_right (by decide) (by decide)
  unfold Sm
  exact Nat.lt_of_lt_of_le (by omega) e
theorem pow_ok {i : Int} {k : Nat} (hk : k ≤ 1000) (h : i.natAbs < 2 ^ 10000) : powD (.int i) (.int (k : Int)) = some (.int (i ^ k)) := by
  simp only [powD]
  rw [if_pos ⟨by omega, by omega, h⟩]
  simp
theorem sm_pow {i : Int} (h : Sm i) : i.natAbs < 2 ^ 10000 := by
  unfold Sm at h
  exact Nat.lt_of_lt_of_le h (Nat.pow_le_pow_right (by decide) (by decide))
@[simp] theorem addD_int {i j : Int} : addD (.int i) (.int j) = some (.int (i + j)) := nr rfl
@[simp] theorem subD_int {i j : Int} : subD (.int i) (.int j) = some (.int (i - j)) := nr rfl
@[simp] theorem ltD_int {i j : Int} : ltD (.int i) (.int j) = some (.bl (decide (i < j))) := nr rfl
@[simp] theorem leD_int {i j : Int} : leD (.int i) (.int j) = some (.bl (decide (i ≤ j))) := nr rfl
@[simp] theorem gtD_int {i j : Int} : gtD (.int i) (.int j) = some (.bl (decide (j < i))) := nr rfl
@[simp] theorem geD_int {i j : Int} : geD (.int i) (.int j) = some (.bl (decide (j ≤ i))) := nr rfl
@[simp] theorem intB_int {i : Int} : intB [.int i] = some (.int i) := nr rfl
@[simp] theorem absB_int {i : Int} : absB [.int i] = some (.int (if i < 0 then -i else i)) := nr rfl
@[simp] theorem lenB_tup {xs : List D} : lenB [.tup xs] = some (.int xs.length) := nr rfl
@[simp] theorem lenB_lst {xs : List D} : lenB [.lst xs] = some (.int xs.length) := nr rfl
@[simp] theorem lenB_scr {xs : List Int} : lenB [.scr xs] = some (.int xs.length) := nr rfl
@[simp] theorem truD_bl {k : Bool} : truD (.bl k) = some k := nr rfl
@[simp] theorem truD_int {i : Int} : truD (.int i) = some (i != 0) := nr rfl
@[simp] theorem eqD_int {i j : Int} : eqD (.int i) (.int j) = some (.bl (i == j)) := by simp [eqD, fineD, okD, depD, eqvD]
@[simp] theorem neD_int {i j : Int} : neD (.int i) (.int j) = some (.bl (!(i == j))) := by simp [neD, fineD, okD, depD, eqvD]
@[simp] theorem eqD_bl {i j : Bool} : eqD (.bl i) (.bl j) = some (.bl (i == j)) := by simp [eqD, fineD, okD, depD, eqvD]
@[simp] theorem neD_bl {i j : Bool} : neD (.bl i) (.bl j) = some (.bl (!(i == j))) := by simp [neD, fineD, okD, depD, eqvD]
theorem itemD_lst {xs : List D} {i : Int} : itemD (.lst xs) (.int i) = atD xs i := rfl
theorem itemD_tup {xs : List D} {i : Int} : itemD (.tup xs) (.int i) = atD xs i := rfl
theorem atD_nat {α : Type} {xs : List α} {i : Int} {j : Nat} {x : α} (h : i = j) (e : xs[j]? = some x) : atD xs i = some x := by
  subst h
  have hl := (List.getElem?_eq_some_iff.mp e).1
  unfold atD ixD
  rw [if_pos (by omega), if_pos (by omega)]
  simpa using e
end DL

/-! DF: loops and comprehensions, reckoned. -/
namespace DL
open PySem
section
variable {ρ : Env} {st st' : Store} {p : Pt} {t : TF} {e : EF} {ds : List D} {it : IF} {as : AF} {i : Nat} {own : List Nat} {body : SF}
def lenK (ds : List D) (o : Out (List D)) : Out (List D) := if ds.length ≤ szL then o else .bad
theorem lenK_ok (h : ds.length ≤ 16777216) {o : Out (List D)} : lenK ds o = o := if_pos h
theorem lComp_eq : lComp it p t e own ρ st = (it ρ st).bd fun ds st1 => lenK ds (compL p t e (killE ρ own) ds st1) := rfl
def rngK (ds : List D) (st : Store) : Out (List D) := match ds with
  | [.int j] => if -b62 ≤ j ∧ j < b62 then .ok (rngD 0 j) st else .bad
  | [.int i, .int j] => if (-b62 ≤ i ∧ i < b62) ∧ -b62 ≤ j ∧ j < b62 then .ok (rngD i j) st else .bad
  | _ => .bad
@[simp ↓] theorem iRng_eq : iRng as ρ st = (as ρ st).bd fun ds st1 => rngK ds st1 := nr rfl
theorem rngK1 {j : Int} (h1 : -4611686018427387904 ≤ j) (h2 : j < 4611686018427387904) : rngK [.int j] st = .ok (rngD 0 j) st := if_pos ⟨h1, h2⟩
theorem rngK2 {i j : Int} (h1 : -4611686018427387904 ≤ i) (h2 : i < 4611686018427387904) (h3 : -4611686018427387904 ≤ j) (h4 : j < 4611686018427387904) : rngK [.int i, .int j] st = .ok (rngD i j) st := if_pos ⟨⟨h1, h2⟩, h3, h4⟩
def seqK (x : RD) (st : Store) : Out (List D) := match x with
  | .d (.lst ds) => .ok ds st
  | .d (.tup ds) => .ok ds st
  | _ => .bad
@[simp] theorem seqK_lst : seqK (.d (.lst ds)) st = .ok ds st := nr rfl
@[simp] theorem seqK_tup : seqK (.d (.tup ds)) st = .ok ds st := nr rfl
@[simp ↓] theorem iData_eq {a : EF} : iData a ρ st = (a ρ st).bd fun x st1 => seqK x st1 := nr rfl
def enmK (ds : List D) (st : Store) : Out (List D) := match ds with
  | [.lst xs] => .ok (enumD xs) st
  | [.tup xs] => .ok (enumD xs) st
  | _ => .bad
@[simp] theorem enmK_tup {xs : List D} : enmK [.tup xs] st = .ok (enumD xs) st := nr rfl
@[simp] theorem enmK_lst {xs : List D} : enmK [.lst xs] st = .ok (enumD xs) st := nr rfl
@[simp ↓] theorem iEnumF_eq : iEnumF as ρ st = (as ρ st).bd fun ds st1 => enmK ds st1 := nr rfl
theorem rngD_len (lo hi : Int) : (rngD lo hi).length = (hi - lo).toNat := by simp [rngD]
theorem rngD_get {lo hi : Int} {k : Nat} (h : k < (hi - lo).toNat) : (rngD lo hi)[k]? = some (.int (lo + k)) := by
  unfold rngD
  rw [List.getElem?_map, List.getElem?_range h]
  rfl
theorem rngD_mem {lo hi : Int} {d : D} (h : d ∈ rngD lo hi) : ∃ i, d = .int i ∧ lo ≤ i ∧ i < hi := by
  unfold rngD at h
  obtain ⟨k, h1, h2⟩ := List.mem_map.mp h
  have := List.mem_range.mp h1
  exact ⟨lo + k, h2.symm, by omega, by omega⟩
/-- a comprehension that leaves the store as it is -/
theorem comp_pure (q : D → Bool) (f : D → D) : ∀ (ds : List D), (∀ d ∈ ds, ∃ as, pmat p d = some as ∧ t (setMany ρ as) st = .ok (q d) st ∧ (q d = true → eTake e (setMany ρ as) st = .ok (f d) st)) →
    compL p t e ρ ds st = .ok ((ds.filter q).map f) st
  | [], _ => rfl
  | d :: ds, h => by
    obtain ⟨as, h1, h2, h3⟩ := h d (List.mem_cons_self ..)
    have ih := comp_pure q f ds fun x hx => h x (List.mem_cons_of_mem _ hx)
    rw [compL, h1]
    simp only [h2, Out.nx_ok, Out.bind_ok]
    cases hq : q d with
    | true =>
      rw [if_pos rfl, h3 hq]
      simp only [Out.nx_ok, Out.bind_ok, ih, List.filter_cons, hq, if_true, List.map_cons]
    | false => simp [ih, hq]
theorem comp_all (f : D → D) (h : ∀ d ∈ ds, ∃ as, pmat p d = some as ∧ eTake e (setMany ρ as) st = .ok (f d) st) : compL p tYesF e ρ ds st = .ok (ds.map f) st := by
  have := comp_pure (p := p) (t := tYesF) (e := e) (ρ := ρ) (st := st) (fun _ => true) f ds fun d hd => by
    obtain ⟨as, h1, h2⟩ := h d hd
    exact ⟨as, h1, rfl, fun _ => h2⟩
  rw [this, List.filter_eq_self.mpr fun _ _ => rfl]
/-- a comprehension whose items change the store -/
theorem comp_st (P : Nat → List D → Store → Prop) : ∀ (ds : List D) (k : Nat) (acc : List D) (st : Store), P k acc st →
    (∀ (j : Nat) (d : D) (acc : List D) (st : Store), ds[j]? = some d → P (k + j) acc st → ∃ as x st', pmat p d = some as ∧ eTake e (setMany ρ as) st = .ok x st' ∧ P (k + j + 1) (acc ++ [x]) st') →
    ∃ xs st', compL p tYesF e ρ ds st = .ok xs st' ∧ P (k + ds.length) (acc ++ xs) st'
  | [], k, acc, st, h0, _ => ⟨[], st, rfl, by simpa using h0⟩
  | d :: ds, k, acc, st, h0, hs => by
    obtain ⟨as, x, st1, h1, h2, h3⟩ := hs 0 d acc st rfl h0
    obtain ⟨xs, st2, e2, h4⟩ := comp_st P ds (k + 1) (acc ++ [x]) st1 h3 fun j d acc st hd hp => by
      have := hs (j + 1) d acc st (by simpa using hd) (by rw [show k + (j + 1) = k + 1 + j from by omega]; exact hp)
      rw [show k + (j + 1) + 1 = k + 1 + j + 1 from by omega] at this
      exact this
    refine ⟨x :: xs, st2, ?_, ?_⟩
    · rw [compL, h1]
      simp only [tYesF_eq, Out.nx_ok, Out.bind_ok, if_true]
      rw [h2]
      simp only [Out.nx_ok, Out.bind_ok]
      rw [e2]
      rfl
    · rw [show k + (d :: ds).length = k + 1 + ds.length from by simp; omega]
      simpa using h4
@[simp ↓] theorem sFor_eq {kill : List Nat} : sFor it p body kill ρ st = (it ρ st).bdS ρ fun ds st1 => forS p body kill ds (killE ρ kill) st1 := nr rfl
/-- a loop by its invariant -/
theorem for_inv (P : Nat → Env → Store → Prop) : ∀ (ds : List D) (k : Nat) (ρ : Env) (st : Store), P k ρ st →
    (∀ (j : Nat) (d : D) (ρ : Env) (st : Store), ds[j]? = some d → P (k + j) ρ st → ∃ as ρ2 st2, pmat p d = some as ∧ body (setMany ρ as) st = .next ρ2 st2 ∧ P (k + j + 1) ρ2 st2) →
    ∃ ρ2 st2, forS p body [] ds ρ st = .next ρ2 st2 ∧ P (k + ds.length) ρ2 st2
  | [], k, ρ, st, h0, _ => ⟨ρ, st, rfl, h0⟩
  | d :: ds, k, ρ, st, h0, hs => by
    obtain ⟨as, ρ2, st2, h1, h2, h3⟩ := hs 0 d ρ st rfl h0
    obtain ⟨ρ3, st3, e3, h4⟩ := for_inv P ds (k + 1) ρ2 st2 h3 fun j d ρ st hd hp => by
      have := hs (j + 1) d ρ st (by simpa using hd) (by rw [show k + (j + 1) = k + 1 + j from by omega]; exact hp)
      rw [show k + (j + 1) + 1 = k + 1 + j + 1 from by omega] at this
      exact this
    refine ⟨ρ3, st3, ?_, by rw [show k + (d :: ds).length = k + 1 + ds.length from by simp; omega]; exact h4⟩
    rw [forS, h1]
    simp only [h2, killE_nil]
    exact e3
/-- .. that may be left -/
theorem for_brk (P : Nat → Env → Store → Prop) (B : Env → Store → Prop) : ∀ (ds : List D) (k : Nat) (ρ : Env) (st : Store), P k ρ st →
    (∀ (j : Nat) (d : D) (ρ : Env) (st : Store), ds[j]? = some d → P (k + j) ρ st → ∃ as ρ2 st2, pmat p d = some as ∧ ((body (setMany ρ as) st = .next ρ2 st2 ∧ P (k + j + 1) ρ2 st2) ∨ (body (setMany ρ as) st = .brk ρ2 st2 ∧ B ρ2 st2))) →
    ∃ ρ2 st2, forS p body [] ds ρ st = .next ρ2 st2 ∧ (P (k + ds.length) ρ2 st2 ∨ B ρ2 st2)
  | [], k, ρ, st, h0, _ => ⟨ρ, st, rfl, .inl h0⟩
  | d :: ds, k, ρ, st, h0, hs => by
    obtain ⟨as, ρ2, st2, h1, h2⟩ := hs 0 d ρ st rfl h0
    rcases h2 with ⟨h2, h3⟩ | ⟨h2, h3⟩
    · obtain ⟨ρ3, st3, e3, h4⟩ := for_brk P B ds (k + 1) ρ2 st2 h3 fun j d ρ st hd hp => by
        have := hs (j + 1) d ρ st (by simpa using hd) (by rw [show k + (j + 1) = k + 1 + j from by omega]; exact hp)
        rw [show k + (j + 1) + 1 = k + 1 + j + 1 from by omega] at this
        exact this
      refine ⟨ρ3, st3, ?_, by rw [show k + (d :: ds).length = k + 1 + ds.length from by simp; omega]; exact h4⟩
      rw [forS, h1]
      simp only [h2, killE_nil]
      exact e3
    · refine ⟨ρ2, st2, ?_, .inr h3⟩
      rw [forS, h1]
      simp only [h2, killE_nil]
end
end DL

/-! DG: that a datum's text can be made. -/
namespace DL
open PySem L2 PySem.Spec PyProof.Rows
/-- the text of a datum can be made, and has at most m signs -/
def Shw (st : Store) (k m : Nat) (d : D) : Prop := ∀ n, k ≤ n → ∃ p, deepD st n d = some p ∧ p.showable = true ∧ p.hasDict = false ∧ p.shown.length ≤ m
section
variable {st : Store} {k m : Nat} {d : D}
theorem Shw.mono (h : Shw st k m d) {k' m' : Nat} (hk : k ≤ k') (hm : m ≤ m') : Shw st k' m' d := fun n hn =>
  let ⟨p, e, h1, h2, h3⟩ := h n (Nat.le_trans hk hn)
  ⟨p, e, h1, h2, Nat.le_trans h3 hm⟩
theorem shw_non : Shw st 1 4 .non := fun n hn => by
  obtain ⟨n, rfl⟩ : ∃ j, n = j + 1 := ⟨n - 1, by omega⟩
  exact ⟨.none, by rw [deepD], by rw [PyData.showable], by rw [PyData.hasDict], by rw [PyData.shown]; decide +kernel⟩
theorem shw_bl {b : Bool} : Shw st 1 5 (.bl b) := fun n hn => by
  obtain ⟨n, rfl⟩ : ∃ j, n = j + 1 := ⟨n - 1, by omega⟩
  exact ⟨.bool b, by rw [deepD], by rw [PyData.showable], by rw [PyData.hasDict], by rw [PyData.shown]; cases b <;> decide +kernel⟩
theorem shw_int {i : Int} (j : Nat) (h0 : 0 < j) (hj : j ≤ 570) (h : i.natAbs < 10 ^ j) : Shw st 1 (j + 1) (.int i) := fun n hn => by
  obtain ⟨n, rfl⟩ : ∃ j, n = j + 1 := ⟨n - 1, by omega⟩
  refine ⟨.int i, by rw [deepD], ?_, by rw [PyData.hasDict], ?_⟩
  · rw [PyData.showable, decide_eq_true_eq]
    by_cases hz : i.natAbs = 0
    · rw [hz]; decide
    · rw [Nat.log2_lt hz]
      have a1 : (10 : Nat) ^ j ≤ 10 ^ 570 := Nat.pow_le_pow_right (by decide) hj
      have a2 : (10 : Nat) ^ 570 < 2 ^ 1920 := by decide +kernel
      omega
  · rw [PyData.shown, PySem.ofString_length]
    exact int_text_length_le10 h0 h
theorem shw_str {x : Str} (h : (reprText x).length ≤ m) : Shw st 1 m (.str x) := fun n hn => by
  obtain ⟨n, rfl⟩ : ∃ j, n = j + 1 := ⟨n - 1, by omega⟩
  exact ⟨.str x, by rw [deepD], by rw [PyData.showable], by rw [PyData.hasDict], by rw [PyData.shown]; exact h⟩
theorem shw_all (n : Nat) : ∀ (ds : List D), (∀ d ∈ ds, Shw st k m d) → k ≤ n → ∃ ps, mapO (deepD st n) ds = some ps ∧ PyData.showableAll ps = true ∧ PyData.hasDictAll ps = false ∧ PySem.piled (PyData.shownAll ps) ≤ ds.length * (m + 2)
  | [], _, _ => ⟨[], rfl, by rw [PyData.showableAll], by rw [PyData.hasDictAll], by rw [PyData.shownAll, piled_nil]; omega⟩
  | d :: ds, h, hn => by
    obtain ⟨ps, e, h1, h2, h3⟩ := shw_all n ds (fun x hx => h x (List.mem_cons_of_mem _ hx)) hn
    obtain ⟨p, e', g1, g2, g3⟩ := h d (List.mem_cons_self ..) n hn
    refine ⟨p :: ps, by simp only [mapO, e', e], by rw [PyData.showableAll, g1, h1]; rfl, by rw [PyData.hasDictAll, g2, h2]; rfl, ?_⟩
    rw [PyData.shownAll, piled_cons, List.length_cons, Nat.succ_mul]
    omega
theorem listText_le (ts : List Str) : (listText ts).length ≤ piled ts + 2 := by
  cases ts with
  | nil => decide +kernel
  | cons t r =>
    have h := textFrom_length_pos r 1 (("[" : Str) ++ (if (0 : Nat) > 0 then ", " else "" : String) ++ t) (Nat.succ_pos 0)
    have e : ((("[" : Str) ++ (if (0 : Nat) > 0 then ", " else "" : String) ++ t)).length = 1 + t.length := by
      rw [strLen_append, strLen_append]; rfl
    have hX : (listText (t :: r)).length = (textFrom 0 "[" (t :: r)).length + 1 := by
      show (textFrom 0 "[" (t :: r) ++ "]").length = _
      rw [strLen_append]; rfl
    have hY : (textFrom 0 "[" (t :: r)).length = (textFrom 1 (("[" : Str) ++ (if (0 : Nat) > 0 then ", " else "" : String) ++ t) r).length := rfl
    rw [hX, hY, h, e, piled_cons]; omega
theorem tupleText_le (ts : List Str) : (tupleText ts).length ≤ piled ts + 3 := by
  unfold tupleText
  rw [strLen_append, strLen_append]
  have e1 : ((("(" : String) : Str)).length = 1 := rfl
  have e3 : (((if ts.length == 1 then ",)" else ")" : String) : Str)).length ≤ 2 := by split <;> decide
  rw [e1]
  by_cases h : ts = []
  · subst h
    have : (Str.join ", " []).length = 0 := by decide +kernel
    omega
  · have := join_length_add ts h
    omega
theorem shw_tup {ds : List D} (h : ∀ d ∈ ds, Shw st k m d) (c : Nat) (hc : ds.length * (m + 2) + 3 ≤ c) : Shw st (k + 1) c (.tup ds) := fun n hn => by
  obtain ⟨n, rfl⟩ : ∃ j, n = j + 1 := ⟨n - 1, by omega⟩
  obtain ⟨ps, e, h1, h2, h3⟩ := shw_all n ds h (by omega)
  refine ⟨.tuple ps, by rw [deepD, e]; rfl, by rw [PyData.showable, h1], by rw [PyData.hasDict, h2], ?_⟩
  rw [PyData.shown]
  have := tupleText_le (PyData.shownAll ps)
  omega
theorem shw_lst {ds : List D} (h : ∀ d ∈ ds, Shw st k m d) (c : Nat) (hc : ds.length * (m + 2) + 2 ≤ c) : Shw st (k + 1) c (.lst ds) := fun n hn => by
  obtain ⟨n, rfl⟩ : ∃ j, n = j + 1 := ⟨n - 1, by omega⟩
  obtain ⟨ps, e, h1, h2, h3⟩ := shw_all n ds h (by omega)
  refine ⟨.list ps, by rw [deepD, e]; rfl, by rw [PyData.showable, h1], by rw [PyData.hasDict, h2], ?_⟩
  rw [PyData.shown]
  have := listText_le (PyData.shownAll ps)
  omega
theorem shw_ref {ds : List D} {a : Nat} (ha : st[a]? = some ds) (h : ∀ d ∈ ds, Shw st k m d) (c : Nat) (hc : ds.length * (m + 2) + 2 ≤ c) : Shw st (k + 1) c (.ref a) := fun n hn => by
  obtain ⟨n, rfl⟩ : ∃ j, n = j + 1 := ⟨n - 1, by omega⟩
  obtain ⟨ps, e, h1, h2, h3⟩ := shw_all n ds h (by omega)
  refine ⟨.list ps, by rw [deepD, ha, Option.bind_some, e]; rfl, by rw [PyData.showable, h1], by rw [PyData.hasDict, h2], ?_⟩
  rw [PyData.shown]
  have := listText_le (PyData.shownAll ps)
  omega
/-- the text -/
def textD (st : Store) (d : D) : Option Str := (deepD st deepN d).bind shownD
theorem Shw.text (h : Shw st k m d) (hk : k ≤ 40 := by decide) (hm : m ≤ 16777216 := by decide) : ∃ t, textD st d = some t := by
  obtain ⟨p, e, h1, h2, h3⟩ := h 40 hk
  refine ⟨p.shown, ?_⟩
  unfold textD
  rw [e, Option.bind_some]
  unfold shownD
  rw [h1, h2, decide_eq_true (show p.shown.length ≤ szL by show p.shown.length ≤ 16777216; omega)]
  rfl
end
def rpK (x : RD) (st : Store) : Out RD := match x with
  | .d d => ofRD ((textD st d).map .str) st
  | _ => .bad
@[simp] theorem rpK_d {d : D} {st : Store} : rpK (.d d) st = ofRD ((textD st d).map .str) st := nr rfl
@[simp ↓] theorem eRepr_eq {a : EF} {ρ : DL.Env} {st : Store} : eRepr a ρ st = (a ρ st).bd fun x st1 => rpK x st1 := by
  unfold eRepr Out.bd
  congr; funext x st1
  cases x with
  | d x =>
    simp only [rpK, textD]
    cases (deepD st1 deepN x).bind shownD <;> rfl
  | _ => rfl
@[simp] theorem eqD_str {x y : Str} : eqD (.str x) (.str y) = some (.bl (decide (x = y))) := nr rfl
@[simp] theorem neD_str {x y : Str} : neD (.str x) (.str y) = some (.bl (!decide (x = y))) := nr rfl
@[simp ↓] theorem eDic1_eq {kk : Sum Int Str} {a : EF} {ρ : DL.Env} {st : Store} : eDic1 kk a ρ st = (eTake a ρ st).bd fun d st1 => .ok (.d (.dic [kk] [d])) st1 := nr rfl
@[simp ↓] theorem eDic0_eq {ρ : DL.Env} {st : Store} : eDic0 ρ st = .ok (.d (.dic [] [])) st := nr rfl
theorem add_lst {xs ys : List D} (h : xs.length + ys.length ≤ 16777216) : addD (.lst xs) (.lst ys) = some (.lst (xs ++ ys)) := by
  show lenOk _ _ = _
  unfold lenOk
  rw [if_pos (show xs.length + ys.length ≤ szL from h)]
end DL

namespace K43
open PySem DL
structure BoxAt (st : Store) (n B : Nat) : Prop where
  ex : ∃ (a m c : Int) (g : Bool), st[n]? = some [.int a, .bl g, .int m, .int c] ∧ 0 ≤ m ∧ m < 2147483629 ∧ 0 ≤ c ∧ c ≤ B
theorem take1 {st : Store} {n : Nat} {a m c many : Int} (h : st[n]? = some [.int a, .bl true, .int m, .int c]) (ha : 0 < a) (hm : 0 < many) (hs : Sm many) :
    Q_law_take [.ref n, .int many] st = .ok (.int (a % many)) (st.set n [.int (a / many), .bl true, .int m, .int c]) := by
  have hset : ∀ X : List D, (st.set n X)[n]? = some X := fun X => List.getElem?_set_self (List.getElem?_eq_some_iff.mp h).1
  unfold Q_law_take
  rw [runD_eq]
  simp [B__law_take, root_ref, h, itemD, atD, ixD, ha, mod_ok hm, sSetIx, fdiv_ok hm hs, hset]
theorem take2 {st : Store} {n : Nat} {a m c many : Int} {g : Bool} (h : st[n]? = some [.int a, .bl g, .int m, .int c]) (hg : (g && decide (0 < a)) = false) (hm : 0 < many) (hs : Sm many) (h1 : 0 ≤ m) (h2 : m < 2147483629) (h3 : 0 ≤ c) (h4 : c < 1000000000) :
    ∃ r, Q_law_take [.ref n, .int many] st = .ok (.int (r % many)) (st.set n [.int a, .bl g, .int m, .int (c + 1)]) := by
  have hset : ∀ X : List D, (st.set n X)[n]? = some X := fun X => List.getElem?_set_self (List.getElem?_eq_some_iff.mp h).1
  have e1 : mulD (.int 15486091) (.int (c + 1)) = some (.int (15486091 * (c + 1))) := mul_ok (sm_int (by decide) (by decide)) (sm_int (by omega) (by omega))
  have s2 : Sm (m + 15486091 * (c + 1) + 179424907) := sm_int (by omega) (by omega)
  have e2 : powD (.int (m + 15486091 * (c + 1) + 179424907)) (.int 5) = some (.int ((m + 15486091 * (c + 1) + 179424907) ^ 5)) := pow_ok (k := 5) (by decide) (sm_pow s2)
  let x := (m + 15486091 * (c + 1) + 179424907) ^ 5 % 2147483647
  have x0 : 0 ≤ x := Int.emod_nonneg _ (by decide)
  have x1 : x < 2147483647 := Int.emod_lt_of_pos _ (by decide)
  have e3 : mulD (.int x) (.int 48271) = some (.int (x * 48271)) := mul_ok (sm_int (by omega) (by omega)) (sm_int (by decide) (by decide))
  have e4 : mulD (.int 7237) (.int (c + 1)) = some (.int (7237 * (c + 1))) := mul_ok (sm_int (by decide) (by decide)) (sm_int (by omega) (by omega))
  have s5 : Sm (x * 48271 + 7237 * (c + 1)) := sm_int (by omega) (by omega)
  have e5 : powD (.int (x * 48271 + 7237 * (c + 1))) (.int 3) = some (.int ((x * 48271 + 7237 * (c + 1)) ^ 3)) := pow_ok (k := 3) (by decide) (sm_pow s5)
  have e6 : ∀ y : Int, modD (.int y) (.int 2147483647) = some (.int (y % 2147483647)) := fun y => mod_ok (by decide)
  have e7 : ∀ y : Int, modD (.int y) (.int 2147483587) = some (.int (y % 2147483587)) := fun y => mod_ok (by decide)
  have e8 : ∀ y : Int, fdivD (.int y) (.int 64) = some (.int (y / 64)) := fun y => fdiv_ok (by decide) (sm_int (by decide) (by decide))
  have ex : (m + 15486091 * (c + 1) + 179424907) ^ 5 % 2147483647 = x := rfl
  refine ⟨(x * 48271 + 7237 * (c + 1)) ^ 3 % 2147483587 / 64, ?_⟩
  clear_value x
  unfold Q_law_take
  rw [runD_eq]
  cases g with
  | false => simp [B__law_take, root_ref, h, itemD, atD, ixD, mod_ok hm, sSetIx, hset, e1, e2, e4, e6, e7, e8, ex, e3, e5]
  | true =>
    have ha : ¬ (0 < a) := by simpa using hg
    simp [B__law_take, root_ref, h, itemD, atD, ixD, ha, mod_ok hm, sSetIx, hset, e1, e2, e4, e6, e7, e8, ex, e3, e5]
theorem take_ok {st : Store} {n B : Nat} {many : Int} (b : BoxAt st n B) (hB : B < 1000000) (hm : 0 < many) (hs : many < 1000000) :
    ∃ r st', Q_law_take [.ref n, .int many] st = .ok (.int r) st' ∧ 0 ≤ r ∧ r < many ∧ BoxAt st' n (B + 1) ∧ ∃ xs, st' = st.set n xs := by
  obtain ⟨a, m, c, g, h, h1, h2, h3, h4⟩ := b.ex
  have hl : n < st.length := (List.getElem?_eq_some_iff.mp h).1
  have sm : Sm many := sm_int (by omega) (by omega)
  by_cases hg : (g && decide (0 < a)) = true
  · simp only [Bool.and_eq_true, decide_eq_true_eq] at hg
    obtain ⟨rfl, ha⟩ := hg
    exact ⟨_, _, take1 h ha hm sm, Int.emod_nonneg _ (by omega), Int.emod_lt_of_pos _ hm, ⟨⟨_, _, _, _, List.getElem?_set_self hl, h1, h2, h3, by omega⟩⟩, _, rfl⟩
  · obtain ⟨r, e⟩ := take2 h (by simpa using hg) hm sm h1 h2 h3 (by omega)
    exact ⟨_, _, e, Int.emod_nonneg _ (by omega), Int.emod_lt_of_pos _ hm, ⟨⟨_, _, _, _, List.getElem?_set_self hl, h1, h2, by omega, by omega⟩⟩, _, rfl⟩
end K43

namespace K43
open PySem DL
/-- the box is as it was but for its own list -/
structure Kept (st st' : Store) (n : Nat) : Prop where
  len : st'.length = st.length
  oth : ∀ j, j ≠ n → st'[j]? = st[j]?
theorem Kept.refl (st : Store) (n : Nat) : Kept st st n := ⟨rfl, fun _ _ => rfl⟩
theorem Kept.trans {a b c : Store} {n : Nat} (h : Kept a b n) (k : Kept b c n) : Kept a c n := ⟨k.len.trans h.len, fun j e => (k.oth j e).trans (h.oth j e)⟩
theorem Kept.set (st : Store) (n : Nat) (xs : List D) : Kept st (st.set n xs) n := ⟨List.length_set, fun j e => List.getElem?_set_ne (fun z => e z.symm)⟩
theorem BoxAt.mono {st : Store} {n B C : Nat} (b : BoxAt st n B) (h : B ≤ C) : BoxAt st n C := by
  obtain ⟨a, m, c, g, h1, h2, h3, h4, h5⟩ := b.ex
  exact ⟨⟨a, m, c, g, h1, h2, h3, h4, by omega⟩⟩
theorem take_k {st : Store} {n B : Nat} (b : BoxAt st n B) (hB : B < 1000000) (many : Int) (hm : 0 < many) (hs : many < 1000000) :
    ∃ r st', Q_law_take [.ref n, .int many] st = .ok (.int r) st' ∧ 0 ≤ r ∧ r < many ∧ BoxAt st' n (B + 1) ∧ Kept st st' n := by
  obtain ⟨r, st', e, h1, h2, h3, xs, rfl⟩ := take_ok b hB hm hs
  exact ⟨r, _, e, h1, h2, h3, Kept.set st n xs⟩
/-- a calendar -/
structure Cal (cs : List Int) : Prop where
  bit : ∀ c ∈ cs, c = 0 ∨ c = 1
  pos : 1 ≤ cs.length
  few : cs.length ≤ 31
  one : (1 : Int) ∈ cs
def calD (cs : List Int) : D := .tup (cs.map .int)
theorem intsD_map : ∀ (cs : List Int), intsD (cs.map D.int) = some cs
  | [] => rfl
  | c :: cs => by simp [intsD, intsD_map cs]
theorem list_at {xs : List D} {i : Int} (h0 : 0 ≤ i) (h1 : i < xs.length) : ∃ d, atD xs i = some d ∧ d ∈ xs := by
  obtain ⟨j, rfl⟩ := Int.eq_ofNat_of_zero_le h0
  have hj : j < xs.length := by simpa using h1
  exact ⟨xs[j], atD_nat rfl (List.getElem?_eq_getElem hj), List.getElem_mem hj⟩
theorem maxI_bits {cs : List Int} (hb : ∀ c ∈ cs, c = 0 ∨ c = 1) (hp : 1 ≤ cs.length) : ∃ m, maxI cs = some m ∧ (m = 0 ∨ m = 1) ∧ (m = 1 ↔ (1 : Int) ∈ cs) := by
  have gen : ∀ (cs : List Int) (a : Int), (a = 0 ∨ a = 1) → (∀ c ∈ cs, c = 0 ∨ c = 1) → (cs.foldl max a = 0 ∨ cs.foldl max a = 1) ∧ (cs.foldl max a = 1 ↔ a = 1 ∨ (1 : Int) ∈ cs) := by
    intro cs
    induction cs with
    | nil => intro a h _; simp [h]
    | cons c cs ih =>
      intro a h1 h2
      have hc := h2 c (List.mem_cons_self ..)
      have := ih (max a c) (by omega) fun x hx => h2 x (List.mem_cons_of_mem _ hx)
      rw [List.foldl_cons]
      refine ⟨this.1, this.2.trans ?_⟩
      rw [List.mem_cons]
      constructor
      · rintro (h | h)
        · by_cases ha : a = 1
          · exact .inl ha
          · exact .inr (.inl (by omega))
        · exact .inr (.inr h)
      · rintro (h | h | h)
        · exact .inl (by omega)
        · exact .inl (by omega)
        · exact .inr h
  cases cs with
  | nil => simp at hp
  | cons c cs =>
    obtain ⟨h1, h2⟩ := gen cs c (hb c (List.mem_cons_self ..)) fun x hx => hb x (List.mem_cons_of_mem _ hx)
    exact ⟨_, rfl, h1, by rw [h2, List.mem_cons]; constructor <;> (rintro (h | h); exact .inl h.symm; exact .inr h)⟩
theorem calendar_ok {st : Store} {n B : Nat} (b : BoxAt st n B) (hB : B < 900000) : ∃ cs st', Q_law_calendar [.ref n] st = .ok (calD cs) st' ∧ Cal cs ∧ BoxAt st' n (B + 60) ∧ Kept st st' n := by
  obtain ⟨r1, s1, e1, g1, l1, b1, k1⟩ := take_k b (by omega) 31 (by decide) (by decide)
  obtain ⟨r2, s2, e2, g2, l2, b2, k2⟩ := take_k b1 (by omega) 4 (by decide) (by decide)
  obtain ⟨r3, s3, e3, g3, l3, b3, k3⟩ := take_k b2 (by omega) 4 (by decide) (by decide)
  obtain ⟨r4, s4, e4, g4, l4, b4, k4⟩ := take_k b3 (by omega) 6 (by decide) (by decide)
  have hmany : ∃ many : Int, atD [D.int 7, .int (1 + r1), .int 31, .int (1 + r2)] r3 = some (.int many) ∧ 1 ≤ many ∧ many ≤ 31 := by
    obtain ⟨d, h1, h2⟩ := list_at (xs := [D.int 7, .int (1 + r1), .int 31, .int (1 + r2)]) g3 (by simpa using l3)
    simp only [List.mem_cons, List.not_mem_nil, or_false] at h2
    rcases h2 with rfl | rfl | rfl | rfl
    · exact ⟨_, h1, by omega, by omega⟩
    · exact ⟨_, h1, by omega, by omega⟩
    · exact ⟨_, h1, by omega, by omega⟩
    · exact ⟨_, h1, by omega, by omega⟩
  obtain ⟨many, em, m1, m2⟩ := hmany
  have rl : (rngD 0 many).length = many.toNat := by rw [rngD_len]; simp
  -- the drawn days
  obtain ⟨ds, s5, e5, b5, k5, bits, dl⟩ : ∃ (ds : List Int) (s5 : Store), compL (.n 5) tYesF (eCall Q_law_take (aCons (eVar 0) (aCons (eC (.int 2)) aNil))) [some (.sh (.ref n)), some (.sh (.int many)), some (.sh (.int r4)), none, none, none] (rngD 0 many) s4 = .ok (ds.map .int) s5 ∧
      BoxAt s5 n (B + 4 + 31) ∧ Kept s4 s5 n ∧ (∀ c ∈ ds, c = 0 ∨ c = 1) ∧ ds.length = many.toNat := by
    obtain ⟨xs, s5, h1, h2⟩ := comp_st (p := .n 5) (e := eCall Q_law_take (aCons (eVar 0) (aCons (eC (.int 2)) aNil))) (ρ := [some (.sh (.ref n)), some (.sh (.int many)), some (.sh (.int r4)), none, none, none])
      (fun k acc st => ∃ cs : List Int, acc = cs.map .int ∧ cs.length = k ∧ (∀ c ∈ cs, c = 0 ∨ c = 1) ∧ BoxAt st n (B + 4 + k) ∧ Kept s4 st n) (rngD 0 many) 0 [] s4 ⟨[], rfl, rfl, by simp, b4, Kept.refl _ _⟩ (by
        rintro j d acc st hd ⟨cs, rfl, hl, hc, hb, hk⟩
        have hj : j < (rngD 0 many).length := (List.getElem?_eq_some_iff.mp hd).1
        rw [rl] at hj
        obtain ⟨r, s', e, h1, h2, h3, h4⟩ := take_k hb (by omega) 2 (by decide) (by decide)
        refine ⟨_, .int r, s', pmat_n, by simp [e], cs ++ [r], by simp, by simp [hl], fun c hm => ?_, h3, hk.trans h4⟩
        rcases List.mem_append.mp hm with h | h
        · exact hc c h
        · rw [List.mem_singleton] at h; omega)
    obtain ⟨cs, h3, h4, h5, h6, h7⟩ := h2
    rw [List.nil_append] at h3
    subst h3
    rw [rl] at h4 h6
    exact ⟨cs, s5, h1, h6.mono (by omega), h7, h5, by omega⟩
  have k05 : Kept st s5 n := (((k1.trans k2).trans k3).trans k4).trans k5
  have hlen : (rngD 0 many).length ≤ 16777216 := by rw [rl]; omega
  have erng : ∀ s : Store, rngK [.int many] s = .ok (rngD 0 many) s := fun s => rngK1 (by omega) (by omega)
  obtain ⟨mx, hmx, hm01, hm1⟩ := maxI_bits bits (by omega)
  have emax : maxB [.lst (ds.map .int)] = some (.int mx) := by simp [maxB, intsD_map, hmx]
  have start : B__law_calendar [some (.sh (.ref n)), none, none, none, none, none] st = (OutS.next [some (.sh (.ref n)), some (.sh (.int many)), some (.sh (.int r4)), some (.sh (.lst (ds.map .int))), none, none] s5).seq
      (sSeq (sIf (tVal (eOp eqD (eVar 2) (eC (.int 0)))) (sSeq (sSet 3 (eOp mulD (eLst (lDisp (aCons (eC (.int 1)) aNil))) (eVar 1))) sNil) sNil)
      (sSeq (sIf (DL.tOr (tVal (eOp eqD (eVar 2) (eC (.int 1)))) (tVal (eOp eqD (eB maxB (hCons (eVar 3) hNil)) (eC (.int 0))))) (sSeq (sSet 4 (eIx (eLst (lDisp (aCons (eC (.int 0)) (aCons (eOp subD (eVar 1) (eC (.int 1))) (aCons (eCall Q_law_take (aCons (eVar 0) (aCons (eVar 1) aNil))) aNil))))) (eCall Q_law_take (aCons (eVar 0) (aCons (eC (.int 3)) aNil)))))
      (sSeq (sSet 3 (eLst (lComp (iRng (aCons (eVar 1) aNil)) (.n 5) tYesF (eIf (tVal (eOp eqD (eVar 5) (eVar 4))) (eC (.int 1)) (eC (.int 0))) [5]))) sNil)) sNil)
      (sSeq (sRet (eB tupleB (hCons (eVar 3) hNil))) sNil))) := by
    unfold B__law_calendar
    simp [e1, e2, e3, e4, itemD_lst, em, lComp_eq, erng, lenK_ok hlen, e5]
  unfold Q_law_calendar
  rw [runD_eq]
  show ∃ cs st', (B__law_calendar [some (.sh (.ref n)), none, none, none, none, none] st).run = _ ∧ _
  rw [start]
  by_cases w0 : r4 = 0
  · -- every day is worked
    have eone : mulD (.lst [.int 1]) (.int many) = some (.lst ((List.replicate many.toNat (1 : Int)).map .int)) := by
      simp only [mulD]
      rw [if_pos (by simp; omega)]
      congr 2
      induction many.toNat with
      | zero => rfl
      | succ k ih => rw [List.replicate_succ, List.flatten_cons, ih, List.replicate_succ]; rfl
    have hb1 : ∀ c ∈ List.replicate many.toNat (1 : Int), c = 0 ∨ c = 1 := fun c h => .inr (List.eq_of_mem_replicate h)
    have hin : (1 : Int) ∈ List.replicate many.toNat (1 : Int) := List.mem_replicate.mpr ⟨by omega, rfl⟩
    obtain ⟨m, h1, h2, h3⟩ := maxI_bits hb1 (by simp; omega)
    have emax1 : maxB [.lst ((List.replicate many.toNat (1 : Int)).map .int)] = some (.int 1) := by
      rw [h3.mpr hin] at h1
      show ((intsD _).bind maxI).map D.int = _
      rw [intsD_map, Option.bind_some, h1]
      rfl
    refine ⟨List.replicate many.toNat (1 : Int), s5, ?_, ⟨hb1, by simp; omega, by simp; omega, hin⟩, b5.mono (by omega), k05⟩
    subst w0
    simp only [List.map_replicate] at eone emax1
    simp [eone, emax1, tupleB, calD]
  · by_cases w1 : r4 = 1 ∨ mx = 0
    · obtain ⟨r6, s6, e6, g6, l6, b6, k6⟩ := take_k b5 (by omega) many (by omega) (by omega)
      obtain ⟨r7, s7, e7, g7, l7, b7, k7⟩ := take_k b6 (by omega) 3 (by decide) (by decide)
      obtain ⟨at', ea, a1, a2⟩ : ∃ at' : Int, atD [D.int 0, .int (many - 1), .int r6] r7 = some (.int at') ∧ 0 ≤ at' ∧ at' < many := by
        obtain ⟨d, h1, h2⟩ := list_at (xs := [D.int 0, .int (many - 1), .int r6]) g7 (by simpa using l7)
        simp only [List.mem_cons, List.not_mem_nil, or_false] at h2
        rcases h2 with rfl | rfl | rfl
        · exact ⟨_, h1, by omega, by omega⟩
        · exact ⟨_, h1, by omega, by omega⟩
        · exact ⟨_, h1, by omega, by omega⟩
      let cs : List Int := (List.range many.toNat).map fun (k : Nat) => if (k : Int) = at' then 1 else 0
      have ecomp : ∀ x y : Option Sl, compL (.n 5) tYesF (eIf (tVal (eOp eqD (eVar 5) (eVar 4))) (eC (.int 1)) (eC (.int 0))) [some (.sh (.ref n)), some (.sh (.int many)), y, x, some (.sh (.int at')), none] (rngD 0 many) s7 = .ok (cs.map .int) s7 := by
        intro x y
        rw [comp_all (fun d => match d with | .int k => if k = at' then .int 1 else .int 0 | d => d)]
        · congr 1
          simp only [cs, rngD, List.map_map]
          rw [show (many - 0).toNat = many.toNat from by simp]
          apply List.map_congr_left
          intro k _
          simp only [Function.comp]
          by_cases hk : (k : Int) = at'
          · simp [hk]
          · simp [hk]
        · intro d hd
          obtain ⟨i, rfl, _, _⟩ := rngD_mem hd
          refine ⟨_, pmat_n, ?_⟩
          by_cases hk : i = at'
          · simp [hk]
          · have hk' : (i == at') = false := by simpa using hk
            simp [hk, hk']
      refine ⟨cs, s7, ?_, ⟨fun c h => ?_, by simp [cs]; omega, by simp [cs]; omega, ?_⟩, b7.mono (by omega), (k05.trans k6).trans k7⟩
      · have key : ∀ (A C : Out D), (iteK (r4 == 1) (fun _ => A) fun _ => iteK (mx == 0) (fun _ => A) fun _ => C) = A := by
          intro A C
          rcases w1 with h | h <;> simp [h, iteK]
        have w0' : (r4 == 0) = false := by simpa using w0
        rcases w1 with h | h
        · simp [h, e6, e7, itemD_lst, ea, lComp_eq, erng, lenK_ok hlen, ecomp, tupleB, calD]
        · by_cases h1 : r4 = 1
          · simp [h1, e6, e7, itemD_lst, ea, lComp_eq, erng, lenK_ok hlen, ecomp, tupleB, calD]
          · have h1' : (r4 == 1) = false := by simpa using h1
            simp [w0', h1', emax, h, e6, e7, itemD_lst, ea, lComp_eq, erng, lenK_ok hlen, ecomp, tupleB, calD]
      · obtain ⟨k, _, rfl⟩ := List.mem_map.mp h
        by_cases hk : (k : Int) = at'
        · simp [hk]
        · simp [hk]
      · exact List.mem_map.mpr ⟨at'.toNat, List.mem_range.mpr (by omega), by rw [if_pos (by omega)]⟩
    · have w0' : (r4 == 0) = false := by simpa using w0
      have h1' : (r4 == 1) = false := by
        have : r4 ≠ 1 := fun h => w1 (.inl h)
        simpa using this
      have h2 : mx ≠ 0 := fun h => w1 (.inr h)
      have h2' : (mx == 0) = false := by simpa using h2
      refine ⟨ds, s5, ?_, ⟨bits, by omega, by omega, hm1.mp (by omega)⟩, b5.mono (by omega), k05⟩
      simp [w0', h1', h2', emax, tupleB, calD]
end K43

namespace K43
open PySem DL
def isIntD : D → Bool
  | .int _ => true
  | _ => false
def bitB : D → Bool
  | .int i => i == 0 || i == 1
  | _ => false
def oneB : D → Bool
  | .int i => i == 1
  | _ => false
def calB : D → Bool
  | .tup xs => decide (1 ≤ xs.length) && decide (xs.length ≤ 31) && xs.all bitB && xs.any oneB
  | _ => false
theorem root_ne_ref {st : Store} {x : D} {n : Nat} : root st x ≠ some (.ref n) := by
  cases x with
  | ref k => rw [root_ref]; cases st[k]? <;> simp
  | _ => simp
theorem root_self {st : Store} {x y : D} (h : root st x = some y) (hl : ∀ xs, y ≠ .lst xs) : x = y := by
  cases x with
  | ref k =>
    rw [root_ref] at h
    cases e : st[k]? with
    | none => rw [e] at h; cases h
    | some xs => rw [e] at h; cases h; exact absurd rfl (hl xs)
  | _ => cases h; rfl
theorem is_integer_ok {st : Store} {x y : D} (h : root st x = some y) : Qis_integer [x] st = .ok (.bl (isIntD y)) st := by
  unfold Qis_integer
  rw [runD_eq]
  cases y with
  | ref n => exact absurd h root_ne_ref
  | _ => simp [B_is_integer, h, isD, isIntD]
theorem law_is_int_ok {st : Store} {x y : D} (h : root st x = some y) : Q_law_is_int [x] st = .ok (.bl (isIntD y)) st := by
  unfold Q_law_is_int
  rw [runD_eq]
  cases y with
  | ref n => exact absurd h root_ne_ref
  | _ => simp [B__law_is_int, h, isD, isIntD]
theorem is_count_ok {st : Store} {x y : D} (h : root st x = some y) : Qis_count [x] st = .ok (.bl (match y with | .int i => decide (0 ≤ i) | _ => false)) st := by
  unfold Qis_count
  rw [runD_eq]
  cases y with
  | ref n => exact absurd h root_ne_ref
  | int i =>
    have e := root_self h (by simp)
    subst e
    simp [B_is_count, is_integer_ok h, isIntD]
  | _ => simp [B_is_count, is_integer_ok h, isIntD]
theorem bools_map {α : Type} (q : α → Bool) : ∀ (ds : List α), bools (ds.map fun x => D.bl (q x)) = some (ds.map q)
  | [] => rfl
  | d :: ds => by simp [bools, bools_map q ds]
theorem beq_swap {a b : Int} : (a == b) = (b == a) := by
  rw [Bool.eq_iff_iff, beq_iff_eq, beq_iff_eq]
  exact eq_comm
theorem in01 {i : Int} : inD (.int i) (.tup [.int 0, .int 1]) = some (.bl (i == 0 || i == 1)) := by
  have : inD (.int i) (.tup [.int 0, .int 1]) = some (.bl ((0 : Int) == i || (1 : Int) == i)) := by simp [inD, flatD, eqvD]
  rw [this, beq_swap, beq_swap (a := 1)]
/-- what may be asked whether it is a calendar -/
def Askd (st : Store) (v : D) : Prop := ∃ r, root st v = some r ∧ ∀ xs, r = .tup xs → ∀ x ∈ xs, ∃ y, root st x = some y
theorem bit_int {st : Store} {x y : D} (h : root st x = some y) : bitB x = bitB y := by
  by_cases hl : ∃ xs, y = .lst xs
  · obtain ⟨xs, rfl⟩ := hl
    cases x with
    | ref k => rfl
    | lst _ => rfl
    | _ => cases h
  · rw [root_self h fun xs e => hl ⟨xs, e⟩]
theorem is_calendar_ok {st : Store} {v : D} (h : Askd st v) : Qis_calendar [v] st = .ok (.bl (calB v)) st := by
  obtain ⟨r, hr, hx⟩ := h
  unfold Qis_calendar
  rw [runD_eq]
  by_cases ht : ∃ xs, r = .tup xs
  · obtain ⟨xs, rfl⟩ := ht
    obtain rfl := root_self hr (by simp)
    by_cases h1 : 1 ≤ xs.length
    · by_cases h2 : xs.length ≤ 31
      · have c1 : decide ((1 : Int) ≤ (xs.length : Int)) = true := by simp; omega
        have c2 : decide ((xs.length : Int) ≤ 31) = true := by simp; omega
        have hcomp : compL (.n 1) tYesF (eAnd (eCall Qis_integer (aCons (eVar 1) aNil)) (eOp inD (eVar 1) (eTup (aCons (eC (.int 0)) (aCons (eC (.int 1)) aNil))))) [some (.sh (.tup xs)), none] xs st = .ok (xs.map fun x => .bl (bitB x)) st := by
          refine comp_all (fun x => .bl (bitB x)) fun x hm => ⟨_, pmat_n, ?_⟩
          obtain ⟨y, hy⟩ := hx xs rfl x hm
          by_cases hi : ∃ i, y = .int i
          · obtain ⟨i, rfl⟩ := hi
            obtain rfl := root_self hy (by simp)
            simp [is_integer_ok hy, isIntD, in01, bitB]
          · have : isIntD y = false := by cases y <;> first | rfl | exact absurd ⟨_, rfl⟩ hi
            have b0 : bitB x = false := by rw [bit_int hy]; cases y <;> first | rfl | exact absurd ⟨_, rfl⟩ hi
            simp [is_integer_ok hy, this, b0]
        by_cases ha : xs.all bitB = true
        · have hfl : xs.all flatD = true := by
            rw [List.all_eq_true] at ha ⊢
            intro x hm
            have := ha x hm
            cases x <;> simp_all [bitB, flatD]
          have hin : inD (.int 1) (.tup xs) = some (.bl (xs.any oneB)) := by
            simp only [inD, hfl]
            rw [show flatD (.int 1) = true from rfl]
            simp only [Bool.and_self, if_true, Option.some.injEq, D.bl.injEq]
            rw [List.all_eq_true] at ha
            clear hcomp hr hx h1 h2 c1 c2 hfl
            induction xs with
            | nil => rfl
            | cons x xs ih =>
              rw [List.any_cons, List.any_cons, ih fun z hz => ha z (List.mem_cons_of_mem _ hz)]
              have := ha x (List.mem_cons_self ..)
              cases x <;> simp_all [bitB, oneB, eqvD]
          have hall : allB [.lst (xs.map fun x => .bl (bitB x))] = some (.bl true) := by
            simp only [allB, bools_map, Option.map_some]
            rw [show (xs.map bitB).all id = xs.all bitB from by simp [List.all_map, Function.comp_def]]
            rw [ha]
          simp [B_is_calendar, isD, c_MOST_DAYS, c1, c2, lComp_eq, lenK_ok (show xs.length ≤ 16777216 by omega), hcomp, hall, hin, calB, h1, h2, ha]
        · have ha' : xs.all bitB = false := by simpa using ha
          have hall : allB [.lst (xs.map fun x => .bl (bitB x))] = some (.bl false) := by
            simp only [allB, bools_map, Option.map_some]
            rw [show (xs.map bitB).all id = xs.all bitB from by simp [List.all_map, Function.comp_def]]
            rw [ha']
          simp only [Bool.not_eq_true] at ha
          simp [B_is_calendar, isD, c_MOST_DAYS, c1, c2, lComp_eq, lenK_ok (show xs.length ≤ 16777216 by omega), hcomp, hall, calB, h1, h2, ha', -List.all_eq_true, -List.all_eq_false]
      · have c1 : decide ((1 : Int) ≤ (xs.length : Int)) = true := by simp; omega
        have c2 : decide ((xs.length : Int) ≤ 31) = false := by simp; omega
        simp [B_is_calendar, isD, c_MOST_DAYS, c1, c2, calB, h2]
    · have c1 : decide ((1 : Int) ≤ (xs.length : Int)) = false := by simp; omega
      simp [B_is_calendar, isD, c_MOST_DAYS, c1, calB, h1]
  · have hf : isD "tuple" r = some false := by cases r <;> first | rfl | exact absurd ⟨_, rfl⟩ ht | exact absurd hr root_ne_ref
    have hc : calB v = false := by
      cases v with
      | tup xs => cases hr; exact absurd ⟨_, rfl⟩ ht
      | _ => rfl
    simp [B_is_calendar, hr, hf, hc]
end K43

/-! working days, counted on all whole numbers -/
namespace K43
open PySem DL
def cAt (cs : List Int) (t : Int) : Int := cs.getD (t % (cs.length : Int)).toNat 0
def Sd (cs : List Int) (t : Int) : Int := t / (cs.length : Int) * cs.sum + (cs.take (t % (cs.length : Int)).toNat).sum
section
variable {cs : List Int}
theorem take_succ_sum : ∀ (cs : List Int) (k : Nat), k < cs.length → (cs.take (k + 1)).sum = (cs.take k).sum + cs.getD k 0
  | [], k, h => by simp at h
  | c :: cs, 0, h => by simp
  | c :: cs, k + 1, h => by
    have := take_succ_sum cs k (by simpa using h)
    simp only [List.take_succ_cons, List.sum_cons, this, List.getD_cons_succ]
    omega
theorem Sd_succ (hp : 1 ≤ cs.length) (t : Int) : Sd cs (t + 1) = Sd cs t + cAt cs t := by
  have hn : (0 : Int) < cs.length := by omega
  have r0 := Int.emod_nonneg t (show (cs.length : Int) ≠ 0 by omega)
  have r1 := Int.emod_lt_of_pos t hn
  have e0 := Int.mul_ediv_add_emod t cs.length
  unfold Sd cAt
  by_cases h : t % (cs.length : Int) + 1 < cs.length
  · have e1 : (t + 1) / (cs.length : Int) = t / cs.length := by
      rw [show t + 1 = (t % cs.length + 1) + cs.length * (t / cs.length) from by omega, Int.add_mul_ediv_left _ _ (by omega), Int.ediv_eq_zero_of_lt (by omega) h]
      omega
    have e2 : (t + 1) % (cs.length : Int) = t % cs.length + 1 := by
      rw [show t + 1 = (t % cs.length + 1) + cs.length * (t / cs.length) from by omega, Int.add_mul_emod_self_left, Int.emod_eq_of_lt (by omega) h]
    rw [e1, e2, show (t % (cs.length : Int) + 1).toNat = (t % (cs.length : Int)).toNat + 1 from by omega, take_succ_sum _ _ (by omega)]
    omega
  · have e1 : (t + 1) / (cs.length : Int) = t / cs.length + 1 := by
      rw [show t + 1 = 0 + cs.length * (t / cs.length + 1) from by rw [Int.mul_add, Int.mul_one]; omega, Int.add_mul_ediv_left _ _ (by omega)]
      simp
    have e2 : (t + 1) % (cs.length : Int) = 0 := by
      rw [show t + 1 = 0 + cs.length * (t / cs.length + 1) from by rw [Int.mul_add, Int.mul_one]; omega, Int.add_mul_emod_self_left]
      simp
    have e3 := take_succ_sum cs (t % (cs.length : Int)).toNat (by omega)
    rw [show (t % (cs.length : Int)).toNat + 1 = cs.length from by omega, List.take_length] at e3
    rw [e1, e2, Int.add_mul, Int.one_mul]
    simp only [List.getD_eq_getElem?_getD] at e3 ⊢
    simp
    omega
theorem cAt_bit (C : Cal cs) (t : Int) : cAt cs t = 0 ∨ cAt cs t = 1 := by
  unfold cAt
  rw [List.getD_eq_getElem?_getD]
  cases h : cs[(t % (cs.length : Int)).toNat]? with
  | none => exact .inl rfl
  | some c => exact C.bit c (List.mem_of_getElem? h)
theorem Sd_add (C : Cal cs) (s : Int) : ∀ k : Nat, Sd cs s ≤ Sd cs (s + k) ∧ Sd cs (s + k) ≤ Sd cs s + k
  | 0 => by simp
  | k + 1 => by
    have ih := Sd_add C s k
    have e := Sd_succ C.pos (s + k)
    have b := cAt_bit C (s + k)
    rw [show s + ((k + 1 : Nat) : Int) = s + k + 1 from by omega, e]
    omega
theorem Sd_mono (C : Cal cs) {s t : Int} (h : s ≤ t) : Sd cs s ≤ Sd cs t := by
  have := (Sd_add C s (t - s).toNat).1
  rw [show s + ((t - s).toNat : Int) = t from by omega] at this
  exact this
theorem Sd_zero : Sd cs 0 = 0 := by simp [Sd]
theorem Sd_rounds (hp : 1 ≤ cs.length) (t k : Int) : Sd cs (t + k * cs.length) = Sd cs t + k * cs.sum := by
  unfold Sd
  rw [Int.add_mul_ediv_right _ _ (by omega), Int.add_mul_emod_self_right, Int.add_mul]
  omega
theorem sum_pos (C : Cal cs) : 1 ≤ cs.sum := by
  have gen : ∀ cs : List Int, (∀ c ∈ cs, c = 0 ∨ c = 1) → 0 ≤ cs.sum ∧ ((1 : Int) ∈ cs → 1 ≤ cs.sum) := by
    intro cs
    induction cs with
    | nil => intro _; simp
    | cons c cs ih =>
      intro h
      have hc := h c (List.mem_cons_self ..)
      have := ih fun x hx => h x (List.mem_cons_of_mem _ hx)
      simp only [List.sum_cons, List.mem_cons]
      refine ⟨by omega, ?_⟩
      rintro (h | h)
      · omega
      · have := this.2 h; omega
  exact (gen cs C.bit).2 C.one
theorem sum_le (C : Cal cs) : cs.sum ≤ cs.length := by
  have gen : ∀ cs : List Int, (∀ c ∈ cs, c = 0 ∨ c = 1) → cs.sum ≤ cs.length := by
    intro cs
    induction cs with
    | nil => intro _; simp
    | cons c cs ih =>
      intro h
      have hc := h c (List.mem_cons_self ..)
      have := ih fun x hx => h x (List.mem_cons_of_mem _ hx)
      simp only [List.sum_cons, List.length_cons]
      omega
  exact gen cs C.bit
/-- the places of the worked days -/
def wdF (i : Nat) : List Int → List Nat
  | [] => []
  | c :: cs => if c = 1 then i :: wdF (i + 1) cs else wdF (i + 1) cs
theorem wdF_len : ∀ (cs : List Int) (i : Nat), (∀ c ∈ cs, c = 0 ∨ c = 1) → ((wdF i cs).length : Int) = cs.sum
  | [], _, _ => rfl
  | c :: cs, i, h => by
    have ih := wdF_len cs (i + 1) fun x hx => h x (List.mem_cons_of_mem _ hx)
    rcases h c (List.mem_cons_self ..) with rfl | rfl
    · simp [wdF, ih]
    · simp [wdF, ih]; omega
theorem wdF_get : ∀ (cs : List Int) (i j p : Nat), (∀ c ∈ cs, c = 0 ∨ c = 1) → (wdF i cs)[j]? = some p → ∃ q, p = i + q ∧ q < cs.length ∧ cs.getD q 0 = 1 ∧ (cs.take q).sum = (j : Int)
  | [], _, _, _, _, h => by simp [wdF] at h
  | c :: cs, i, j, p, hb, h => by
    have hb' : ∀ x ∈ cs, x = 0 ∨ x = 1 := fun x hx => hb x (List.mem_cons_of_mem _ hx)
    rcases hb c (List.mem_cons_self ..) with rfl | rfl
    · simp only [wdF] at h
      obtain ⟨q, h1, h2, h3, h4⟩ := wdF_get cs (i + 1) j p hb' (by simpa using h)
      exact ⟨q + 1, by omega, by simp; omega, by simpa using h3, by simpa using h4⟩
    · simp only [wdF, if_true] at h
      cases j with
      | zero =>
        simp only [List.getElem?_cons_zero, Option.some.injEq] at h
        exact ⟨0, by omega, by simp, by simp, by simp⟩
      | succ j =>
        obtain ⟨q, h1, h2, h3, h4⟩ := wdF_get cs (i + 1) j p hb' (by simpa using h)
        refine ⟨q + 1, by omega, by simp; omega, by simpa using h3, ?_⟩
        simp only [List.take_succ_cons, List.sum_cons, h4]
        omega
def todI (cs : List Int) (k : Int) : Int := k / cs.sum * cs.length + ((wdF 0 cs).getD (k % cs.sum).toNat 0 : Nat)
theorem tod_spec (C : Cal cs) {k : Int} : cAt cs (todI cs k) = 1 ∧ Sd cs (todI cs k) = k := by
  have w1 := sum_pos C
  have r0 := Int.emod_nonneg k (show cs.sum ≠ 0 by omega)
  have r1 := Int.emod_lt_of_pos k (show (0 : Int) < cs.sum by omega)
  have wl := wdF_len cs 0 C.bit
  have hj : (k % cs.sum).toNat < (wdF 0 cs).length := by omega
  obtain ⟨q, h1, h2, h3, h4⟩ := wdF_get cs 0 _ _ C.bit (List.getElem?_eq_getElem hj)
  have eq : (wdF 0 cs).getD (k % cs.sum).toNat 0 = q := by
    rw [List.getD_eq_getElem?_getD, List.getElem?_eq_getElem hj, Option.getD_some, h1]
    omega
  unfold todI
  rw [eq]
  have em : (k / cs.sum * (cs.length : Int) + (q : Int)) % (cs.length : Int) = q := by
    rw [Int.add_comm, Int.add_mul_emod_self_right, Int.emod_eq_of_lt (by omega) (by omega)]
  have ed : (k / cs.sum * (cs.length : Int) + (q : Int)) / (cs.length : Int) = k / cs.sum := by
    rw [Int.add_comm, Int.add_mul_ediv_right _ _ (by have := C.pos; omega), Int.ediv_eq_zero_of_lt (by omega) (by omega)]
    omega
  constructor
  · unfold cAt
    rw [em]
    simpa using h3
  · unfold Sd
    rw [em, ed, Int.toNat_natCast, h4]
    have := Int.ediv_mul_add_emod k cs.sum
    omega
/-- a worked day is told by its number -/
theorem day_uniq (C : Cal cs) {s t : Int} (h1 : cAt cs s = 1) (h2 : cAt cs t = 1) (h : Sd cs s = Sd cs t) : s = t := by
  have e1 := Sd_succ C.pos s
  have e2 := Sd_succ C.pos t
  rcases Int.lt_trichotomy s t with h3 | h3 | h3
  · have := Sd_mono C (show s + 1 ≤ t by omega)
    omega
  · exact h3
  · have := Sd_mono C (show t + 1 ≤ s by omega)
    omega
end
end K43

/-! the program's calendars, reckoned -/
namespace K43
open PySem DL
section
variable {cs : List Int} {st : Store}
@[simp] theorem sum_tup (cs : List Int) : sumB [.tup (cs.map D.int)] = some (.int cs.sum) := by simp [sumB, intsD_map]
@[simp] theorem sum_lst (cs : List Int) : sumB [.lst (cs.map D.int)] = some (.int cs.sum) := by simp [sumB, intsD_map]
theorem slice_to {xs : List D} {z : Int} (h0 : 0 ≤ z) : sliceD (.tup xs) none (some z) = some (.tup (xs.take z.toNat)) := by
  simp only [sliceD, cutD, sIxD]
  rw [if_neg (by omega)]
  simp [List.take_eq_take_iff]
theorem sm_div {t n : Int} (h0 : 0 ≤ t) (ht : Sm t) (hn : 0 < n) : Sm (t / n) := by
  have h1 := Int.ediv_nonneg h0 (Int.le_of_lt hn)
  have h2 := Int.ediv_le_self n h0
  unfold Sm at *
  omega
theorem cal_sm (C : Cal cs) : Sm cs.sum ∧ Sm (cs.length : Int) := by
  have := sum_pos C; have := sum_le C; have := C.few
  exact ⟨sm_int (by omega) (by omega), sm_int (by omega) (by omega)⟩
theorem days_until_ok (C : Cal cs) {t : Int} (h0 : 0 ≤ t) (ht : Sm t) : Qdays_until [calD cs, .int t] st = .ok (.int (Sd cs t)) st := by
  have hn : (0 : Int) < cs.length := by have := C.pos; omega
  have r0 := Int.emod_nonneg t (show (cs.length : Int) ≠ 0 by omega)
  unfold Qdays_until
  rw [runD_eq]
  have e1 : fdivD (.int t) (.int (cs.length : Int)) = some (.int (t / cs.length)) := fdiv_ok hn (cal_sm C).2
  have e2 : mulD (.int (t / cs.length)) (.int cs.sum) = some (.int (t / cs.length * cs.sum)) := mul_ok (sm_div h0 ht hn) (cal_sm C).1
  have e3 : modD (.int t) (.int (cs.length : Int)) = some (.int (t % cs.length)) := mod_ok hn
  have e4 : sliceD (.tup (cs.map D.int)) none (some (t % (cs.length : Int))) = some (.tup ((cs.take (t % (cs.length : Int)).toNat).map D.int)) := by rw [slice_to r0, List.map_take]
  have e5 := sum_tup (cs.take (t % (cs.length : Int)).toNat)
  simp [B_days_until, calD, e1, e2, e3, e4, e5, Sd, -List.map_take]
theorem enum_wd : ∀ (cs : List Int) (i : Nat), (∀ c ∈ cs, c = 0 ∨ c = 1) →
    ((((cs.map D.int).zipIdx i).map fun p => D.tup [.int (p.2 : Nat), p.1]).filter fun d => match d with | .tup [_, .int c] => c == 1 | _ => false).map (fun d => match d with | .tup [x, _] => x | d => d) = (wdF i cs).map fun (k : Nat) => D.int k
  | [], _, _ => rfl
  | c :: cs, i, h => by
    have ih := enum_wd cs (i + 1) fun x hx => h x (List.mem_cons_of_mem _ hx)
    rcases h c (List.mem_cons_self ..) with rfl | rfl
    · simpa [wdF] using ih
    · simpa [wdF] using ih
theorem time_of_day_ok (C : Cal cs) {k : Int} (h0 : 0 ≤ k) (hk : Sm k) : Qtime_of_day [calD cs, .int k] st = .ok (.int (todI cs k)) st := by
  have w1 := sum_pos C
  have wl := wdF_len cs 0 C.bit
  have r0 := Int.emod_nonneg k (show cs.sum ≠ 0 by omega)
  have r1 := Int.emod_lt_of_pos k (show (0 : Int) < cs.sum by omega)
  unfold Qtime_of_day
  rw [runD_eq]
  have hcomp : ∀ ρ5 : Option Sl, compL (.t [.n 3, .n 4]) (tVal (eOp eqD (eVar 4) (eC (.int 1)))) (eVar 3) [some (.sh (.tup (cs.map D.int))), some (.sh (.int k)), ρ5, none, none] (enumD (cs.map D.int)) st = .ok ((wdF 0 cs).map fun (k : Nat) => D.int k) st := by
    intro ρ5
    rw [comp_pure (fun d => match d with | .tup [_, .int c] => c == 1 | _ => false) (fun d => match d with | .tup [x, _] => x | d => d)]
    · rw [← enum_wd cs 0 C.bit]
      rfl
    · intro d hd
      obtain ⟨p, hp, rfl⟩ := List.mem_map.mp hd
      obtain ⟨x, i⟩ := p
      have hx := List.fst_mem_of_mem_zipIdx hp
      obtain ⟨c, _, rfl⟩ := List.mem_map.mp hx
      refine ⟨[(3, .int i), (4, .int c)], by simp [pmat, pmats], by simp, fun _ => by simp⟩
  have hl : (enumD (cs.map D.int)).length ≤ 16777216 := by have := C.few; simp [enumD]; omega
  have e1 : fdivD (.int k) (.int ((wdF 0 cs).length : Int)) = some (.int (k / cs.sum)) := by rw [wl]; exact fdiv_ok (by omega) (cal_sm C).1
  have e2 : mulD (.int (k / cs.sum)) (.int (cs.length : Int)) = some (.int (k / cs.sum * cs.length)) := mul_ok (sm_div h0 hk (by omega)) (cal_sm C).2
  have e3 : modD (.int k) (.int ((wdF 0 cs).length : Int)) = some (.int (k % cs.sum)) := by rw [wl]; exact mod_ok (by omega)
  have hj : (k % cs.sum).toNat < (wdF 0 cs).length := by omega
  have e4 : itemD (.lst ((wdF 0 cs).map fun (k : Nat) => D.int k)) (.int (k % cs.sum)) = some (.int ((wdF 0 cs).getD (k % cs.sum).toNat 0 : Nat)) := by
    rw [itemD_lst]
    refine atD_nat (j := (k % cs.sum).toNat) (by omega) ?_
    rw [List.getElem?_map, List.getElem?_eq_getElem hj, List.getD_eq_getElem?_getD, List.getElem?_eq_getElem hj]
    rfl
  simp [B_time_of_day, calD, lComp_eq, lenK_ok hl, hcomp, e1, e2, e3, e4, todI, -List.getD_eq_getElem?_getD]
/-! the doors -/
def doneI (cs : List Int) (s d : Int) : Int := if d = 0 then s else 1 + todI cs (Sd cs s + d - 1)
def begunD (cs : List Int) (t d : Int) : D := if d = 0 then .int t else if Sd cs t - d < 0 then .non else .int (todI cs (Sd cs t - d))
theorem Sd_bnd (C : Cal cs) {t : Int} (h0 : 0 ≤ t) : 0 ≤ Sd cs t ∧ Sd cs t ≤ t := by
  have := Sd_add C 0 t.toNat
  rw [Sd_zero, show (0 : Int) + (t.toNat : Int) = t from by omega] at this
  omega
theorem sm_le {a b : Int} (h0 : 0 ≤ a) (h : a ≤ b) (hb : Sm b) : Sm a := by
  unfold Sm at *
  omega
theorem calB_cal (C : Cal cs) : calB (calD cs) = true := by
  have h1 := C.pos; have h2 := C.few
  simp only [calB, calD, List.length_map, h1, h2, decide_true, Bool.true_and, Bool.and_eq_true, List.all_eq_true, List.any_eq_true]
  refine ⟨fun x hx => ?_, .int 1, List.mem_map.mpr ⟨1, C.one, rfl⟩, rfl⟩
  obtain ⟨c, hc, rfl⟩ := List.mem_map.mp hx
  rcases C.bit c hc with rfl | rfl <;> rfl
theorem askd_cal : Askd st (calD cs) := ⟨_, rfl, fun xs h x hx => by
  cases h
  obtain ⟨c, _, rfl⟩ := List.mem_map.mp hx
  exact ⟨_, rfl⟩⟩
theorem check_ok (h : Askd st v) (hc : calB v = true) : Qcheck_calendar [v] st = .ok .non st := by
  unfold Qcheck_calendar
  rw [runD_eq]
  simp [B_check_calendar, is_calendar_ok h, hc]
theorem check_no (h : Askd st v) (hc : calB v = false) : Qcheck_calendar [v] st = .exc "InvalidCalendars" v st := by
  unfold Qcheck_calendar
  rw [runD_eq]
  simp [B_check_calendar, is_calendar_ok h, hc]
theorem worked_ok (C : Cal cs) {s t : Int} (h0 : 0 ≤ s) (h1 : 0 ≤ t) (hs : Sm s) (ht : Sm t) : Qworked [calD cs, .int s, .int t] st = .ok (.int (if Sd cs t - Sd cs s > 0 then Sd cs t - Sd cs s else 0)) st := by
  unfold Qworked
  rw [runD_eq]
  have c0 : decide (0 ≤ s) = true := by simpa using h0
  have c1 : decide (0 ≤ t) = true := by simpa using h1
  simp [B_worked, check_ok askd_cal (calB_cal C), is_count_ok, c0, c1, days_until_ok C h0 hs, days_until_ok C h1 ht, maxB]
theorem done_ok (C : Cal cs) {s d : Int} (h0 : 0 ≤ s) (h1 : 0 ≤ d) (hs : Sm s) (hsd : Sm (s + d)) : Qdone [calD cs, .int s, .int d] st = .ok (.int (doneI cs s d)) st := by
  unfold Qdone
  rw [runD_eq]
  have c0 : decide (0 ≤ s) = true := by simpa using h0
  have c1 : decide (0 ≤ d) = true := by simpa using h1
  have at' : Qdone_at [calD cs, .int s, .int d] st = .ok (.int (doneI cs s d)) st := by
    unfold Qdone_at
    rw [runD_eq]
    by_cases e : d = 0
    · simp [B_done_at, e, doneI]
    · have e' : (d == 0) = false := by simpa using e
      have b := Sd_bnd C h0
      have tod := time_of_day_ok (st := st) C (k := Sd cs s + d - 1) (by omega) (sm_le (by omega) (show Sd cs s + d - 1 ≤ s + d by omega) hsd)
      simp [B_done_at, e, e', doneI, days_until_ok C h0 hs, tod]
  simp [B_done, check_ok askd_cal (calB_cal C), is_count_ok, c0, c1, at']
theorem begun_ok (C : Cal cs) {t d : Int} (h0 : 0 ≤ t) (h1 : 0 ≤ d) (ht : Sm t) : Qbegun [calD cs, .int t, .int d] st = .ok (begunD cs t d) st := by
  unfold Qbegun
  rw [runD_eq]
  have c0 : decide (0 ≤ t) = true := by simpa using h0
  have c1 : decide (0 ≤ d) = true := by simpa using h1
  have at' : Qbegun_at [calD cs, .int t, .int d] st = .ok (begunD cs t d) st := by
    unfold Qbegun_at
    rw [runD_eq]
    by_cases e : d = 0
    · simp [B_begun_at, e, begunD]
    · have e' : (d == 0) = false := by simpa using e
      have b := Sd_bnd C h0
      by_cases hn : Sd cs t - d < 0
      · have hn' : decide (Sd cs t - d < 0) = true := by simpa using hn
        simp [B_begun_at, e, e', begunD, days_until_ok C h0 ht, hn, hn']
      · have hn' : decide (Sd cs t - d < 0) = false := by simpa using hn
        have tod := time_of_day_ok (st := st) C (k := Sd cs t - d) (by omega) (sm_le (by omega) (show Sd cs t - d ≤ t by omega) ht)
        simp [B_begun_at, e, e', begunD, days_until_ok C h0 ht, hn, hn', tod]
  simp [B_begun, check_ok askd_cal (calB_cal C), is_count_ok, c0, c1, at']
end
end K43

/-! the law's own formulas, reckoned -/
namespace K43
open PySem DL
section
variable {cs : List Int} {st : Store}
theorem cal_item (C : Cal cs) (t : Int) : itemD (.tup (cs.map D.int)) (.int (t % (cs.length : Int))) = some (.int (cAt cs t)) := by
  have hn : (0 : Int) < cs.length := by have := C.pos; omega
  have r0 := Int.emod_nonneg t (show (cs.length : Int) ≠ 0 by omega)
  have r1 := Int.emod_lt_of_pos t hn
  have hj : (t % (cs.length : Int)).toNat < cs.length := by omega
  rw [itemD_tup]
  refine atD_nat (j := (t % (cs.length : Int)).toNat) (by omega) ?_
  rw [List.getElem?_map, List.getElem?_eq_getElem hj]
  unfold cAt
  rw [List.getD_eq_getElem?_getD, List.getElem?_eq_getElem hj]
  rfl
theorem mod_len (C : Cal cs) (t : Int) : modD (.int t) (.int (cs.length : Int)) = some (.int (t % cs.length)) := mod_ok (by have := C.pos; omega)
theorem sum_run (C : Cal cs) (s : Int) : ∀ k : Nat, ((List.range k).map fun (i : Nat) => cAt cs (s + i)).sum = Sd cs (s + k) - Sd cs s
  | 0 => by simp
  | k + 1 => by
    rw [List.range_succ, List.map_append, List.sum_append, sum_run C s k]
    have := Sd_succ C.pos (s + k)
    simp only [List.map_cons, List.map_nil, List.sum_cons, List.sum_nil]
    rw [show s + ((k + 1 : Nat) : Int) = s + k + 1 from by omega]
    omega
theorem law_worked_ok (C : Cal cs) {s t : Int} (h0 : 0 ≤ s) (h1 : 0 ≤ t) (hs : Sm s) (ht : Sm t) : Q_law_worked [calD cs, .int s, .int t] st = .ok (.int (if Sd cs t - Sd cs s > 0 then Sd cs t - Sd cs s else 0)) st := by
  unfold Q_law_worked
  rw [runD_eq]
  by_cases hle : t ≤ s
  · have hd : decide (t ≤ s) = true := by simpa using hle
    have := Sd_mono C hle
    rw [if_neg (by omega)]
    simp [B__law_worked, hd]
  · have hd : decide (t ≤ s) = false := by simpa using hle
    have hn : (0 : Int) < cs.length := by have := C.pos; omega
    have hm := Sd_mono C (show s ≤ t by omega)
    have r0 := Int.emod_nonneg (t - s) (show (cs.length : Int) ≠ 0 by omega)
    have r1 := Int.emod_lt_of_pos (t - s) hn
    have e0 := Int.mul_ediv_add_emod (t - s) cs.length
    let q := (t - s) / (cs.length : Int)
    have q0 : 0 ≤ q := Int.ediv_nonneg (by omega) (by omega)
    have hq : Sm q := sm_le q0 (Int.le_trans (Int.ediv_le_self _ (by omega)) (show t - s ≤ t by omega)) ht
    have e1 : fdivD (.int (t - s)) (.int (cs.length : Int)) = some (.int q) := fdiv_ok hn (cal_sm C).2
    have e2 : mulD (.int q) (.int (cs.length : Int)) = some (.int (q * cs.length)) := mul_ok hq (cal_sm C).2
    have e3 : mulD (.int q) (.int cs.sum) = some (.int (q * cs.sum)) := mul_ok hq (cal_sm C).1
    have hr : t - (s + q * cs.length) = (t - s) % cs.length := by rw [Int.mul_comm q]; show t - (s + cs.length * ((t - s) / cs.length)) = _; omega
    have few := C.few
    have e4 : ∀ s' : Store, rngK [.int (t - (s + q * cs.length))] s' = .ok (rngD 0 (t - (s + q * cs.length))) s' := fun s' => rngK1 (by omega) (by omega)
    have hl : (rngD 0 (t - (s + q * cs.length))).length ≤ 16777216 := by rw [rngD_len]; omega
    let m := (t - (s + q * cs.length)).toNat
    have hcomp : ∀ x : Option Sl, compL (.n 6) tYesF (eIx (eVar 0) (eOp modD (eB intB (hCons (eOp addD (eVar 4) (eVar 6)) hNil)) (eB lenB (hCons (eVar 0) hNil)))) [some (.sh (.tup (cs.map D.int))), some (.sh (.int s)), some (.sh (.int t)), some (.sh (.int q)), some (.sh (.int (s + q * cs.length))), x, none] (rngD 0 (t - (s + q * cs.length))) st =
        .ok (((List.range m).map fun (i : Nat) => cAt cs (s + q * cs.length + i)).map D.int) st := by
      intro x
      rw [comp_all (fun d => match d with | .int k => .int (cAt cs (s + q * cs.length + k)) | d => d)]
      · congr 1
        simp only [rngD, List.map_map]
        rw [show (t - (s + q * (cs.length : Int)) - 0).toNat = m from by simp [m]]
        apply List.map_congr_left
        intro k _
        simp [Function.comp]
      · intro d hd
        obtain ⟨i, rfl, _, _⟩ := rngD_mem hd
        exact ⟨_, pmat_n, by simp [mod_len C, cal_item C]⟩
    have hsum : q * cs.sum + ((List.range m).map fun (i : Nat) => cAt cs (s + q * cs.length + i)).sum = Sd cs t - Sd cs s := by
      rw [sum_run C, Sd_rounds C.pos, show s + q * (cs.length : Int) + (m : Int) = t from by omega]
      omega
    have hres : (if Sd cs t - Sd cs s > 0 then Sd cs t - Sd cs s else 0) = Sd cs t - Sd cs s := by
      split <;> omega
    have e5 := sum_lst ((List.range m).map fun (i : Nat) => cAt cs (s + q * cs.length + i))
    rw [hres, ← hsum]
    simp only [List.map_map] at hcomp e5
    clear_value q m
    simp [B__law_worked, calD, hd, e1, e2, e3, lComp_eq, e4, lenK_ok hl, hcomp, e5]
/-- the day behind the last one that is needed -/
theorem done_uniq (C : Cal cs) {s d t : Int} (hd : 0 < d) (h1 : Sd cs t = Sd cs s + d) (h2 : cAt cs (t - 1) = 1) : doneI cs s d = t := by
  have sp := tod_spec C (k := Sd cs s + d - 1)
  have e := Sd_succ C.pos (t - 1)
  rw [show t - 1 + 1 = t from by omega] at e
  have := day_uniq C sp.1 h2 (by omega)
  unfold doneI
  rw [if_neg (by omega)]
  omega
theorem law_done_ok (C : Cal cs) {s d : Int} (h0 : 0 ≤ s) (h1 : 0 ≤ d) (hs : Sm s) (hsd : Sm d) : Q_law_done [calD cs, .int s, .int d] st = .ok (.int (doneI cs s d)) st := by
  unfold Q_law_done
  rw [runD_eq]
  by_cases e : d = 0
  · simp [B__law_done, e, doneI]
  · have e' : (d == 0) = false := by simpa using e
    have hn : (0 : Int) < cs.length := by have := C.pos; omega
    have w1 := sum_pos C
    have few := C.few
    let q := (d - 1) / cs.sum
    have q0 : 0 ≤ q := Int.ediv_nonneg (by omega) (by omega)
    have hq : Sm q := sm_le q0 (Int.le_trans (Int.ediv_le_self _ (by omega)) (show d - 1 ≤ d by omega)) hsd
    have r0 := Int.emod_nonneg (d - 1) (show cs.sum ≠ 0 by omega)
    have r1 := Int.emod_lt_of_pos (d - 1) (show 0 < cs.sum by omega)
    have e0 : q * cs.sum + (d - 1) % cs.sum = d - 1 := by have := Int.mul_ediv_add_emod (d - 1) cs.sum; rw [Int.mul_comm] at this; exact this
    have e1 : fdivD (.int (d - 1)) (.int cs.sum) = some (.int q) := fdiv_ok (by omega) (cal_sm C).1
    have e2 : mulD (.int q) (.int (cs.length : Int)) = some (.int (q * cs.length)) := mul_ok hq (cal_sm C).2
    have e3 : mulD (.int q) (.int cs.sum) = some (.int (q * cs.sum)) := mul_ok hq (cal_sm C).1
    have e4 : ∀ s' : Store, rngK [.int (cs.length : Int)] s' = .ok (rngD 0 cs.length) s' := fun s' => rngK1 (by omega) (by omega)
    let P : Nat → DL.Env → Store → Prop := fun k ρ st' => st' = st ∧ ∃ (l t : Int) (x : Option Sl), ρ = [some (.sh (calD cs)), some (.sh (.int s)), some (.sh (.int d)), some (.sh (.int q)), some (.sh (.int l)), some (.sh (.int t)), x] ∧
      Sd cs t = Sd cs s + d - l ∧ 0 ≤ l ∧ (0 < l → t = s + q * cs.length + k) ∧ (l = 0 → cAt cs (t - 1) = 1)
    obtain ⟨ρ2, st2, hf, hst, l, t, x, hρ, h2, h3, h4, h5⟩ := for_inv (p := .n 6) (body := sSeq (sIf (tVal (eOp gtD (eVar 4) (eC (.int 0)))) (sSeq (sPar [4, 5] (aCons (eOp subD (eVar 4) (eIx (eVar 0) (eOp modD (eB intB (hCons (eVar 5) hNil)) (eB lenB (hCons (eVar 0) hNil))))) (aCons (eOp addD (eVar 5) (eC (.int 1))) aNil))) sNil) sNil) sNil) P (rngD 0 cs.length) 0
      [some (.sh (calD cs)), some (.sh (.int s)), some (.sh (.int d)), some (.sh (.int q)), some (.sh (.int (d - q * cs.sum))), some (.sh (.int (s + q * cs.length))), none] st
      ⟨rfl, _, _, _, rfl, by rw [Sd_rounds C.pos]; omega, by omega, fun _ => by simp, fun h => by omega⟩ (by
        rintro j dd ρ st' hd ⟨rfl, l, t, x, rfl, h2, h3, h4, h5⟩
        have hj : j < (rngD 0 cs.length).length := (List.getElem?_eq_some_iff.mp hd).1
        rw [rngD_len] at hj
        rw [rngD_get hj] at hd
        cases hd
        have eS := Sd_succ C.pos t
        have eb := cAt_bit C t
        by_cases hl : 0 < l
        · have hl' : decide (0 < l) = true := by simpa using hl
          refine ⟨_, _, _, pmat_n, by simp [calD, hl', mod_len C, cal_item C]; rfl, rfl, l - cAt cs t, t + 1, _, rfl, by omega, by omega, fun h => ?_, fun h => ?_⟩
          · rw [h4 hl]; omega
          · rw [show t + 1 - 1 = t from by omega]
            rcases eb with eb | eb
            · omega
            · exact eb
        · have hl' : decide (0 < l) = false := by simpa using hl
          exact ⟨_, _, _, pmat_n, by simp [hl']; rfl, rfl, l, t, _, rfl, h2, h3, fun h => absurd h hl, h5⟩)
    have l0 : l = 0 := by
      refine Classical.byContradiction fun hne => ?_
      have ht := h4 (by omega)
      rw [rngD_len] at ht
      have e5 : t = s + (q + 1) * cs.length := by rw [Int.add_mul, Int.one_mul]; omega
      rw [e5, Sd_rounds C.pos, Int.add_mul, Int.one_mul] at h2
      omega
    have hres := done_uniq C (s := s) (d := d) (t := t) (by omega) (by omega) (h5 l0)
    rw [hres]
    subst hst hρ
    clear_value q
    have hfor : sFor (iRng (aCons (eB lenB (hCons (eVar 0) hNil)) aNil)) (.n 6) (sSeq (sIf (tVal (eOp gtD (eVar 4) (eC (.int 0)))) (sSeq (sPar [4, 5] (aCons (eOp subD (eVar 4) (eIx (eVar 0) (eOp modD (eB intB (hCons (eVar 5) hNil)) (eB lenB (hCons (eVar 0) hNil))))) (aCons (eOp addD (eVar 5) (eC (.int 1))) aNil))) sNil) sNil) sNil) []
        [some (.sh (calD cs)), some (.sh (.int s)), some (.sh (.int d)), some (.sh (.int q)), some (.sh (.int (d - q * cs.sum))), some (.sh (.int (s + q * cs.length))), none] st2 = .next [some (.sh (calD cs)), some (.sh (.int s)), some (.sh (.int d)), some (.sh (.int q)), some (.sh (.int l)), some (.sh (.int t)), x] st2 := by
      rw [sFor_eq]
      have e5 : iRng (aCons (eB lenB (hCons (eVar 0) hNil)) aNil) [some (.sh (calD cs)), some (.sh (.int s)), some (.sh (.int d)), some (.sh (.int q)), some (.sh (.int (d - q * cs.sum))), some (.sh (.int (s + q * cs.length))), none] st2 = .ok (rngD 0 cs.length) st2 := by
        simp [calD, e4]
      rw [e5, bdS_ok, killE_nil]
      exact hf
    clear hf
    simp only [calD] at hfor
    simp [B__law_done, calD, e, e', e1, e2, e3, hfor, -sFor_eq]
end
end K43

/-! the law's begun, its due, the door, the comparison -/
namespace K43
open PySem DL
section
variable {cs : List Int} {st : Store}
theorem begun_uniq (C : Cal cs) {e d t : Int} (hd : 0 < d) (h1 : Sd cs t = Sd cs e - d) (h2 : cAt cs t = 1) : begunD cs e d = if 0 ≤ t then .int t else .non := by
  have sp := tod_spec C (k := Sd cs e - d)
  have e1 := day_uniq C sp.1 h2 (by omega)
  unfold begunD
  rw [if_neg (by omega)]
  have z := Sd_zero (cs := cs)
  have eS := Sd_succ C.pos t
  by_cases h : 0 ≤ t
  · have := Sd_mono C h
    rw [if_neg (by omega), if_pos h, e1]
  · have := Sd_mono C (show t + 1 ≤ 0 by omega)
    rw [if_pos (by omega), if_neg h]
theorem law_begun_ok (C : Cal cs) {e d : Int} (h0 : 0 ≤ e) (h1 : 0 ≤ d) (hs : Sm e) (hsd : Sm d) : Q_law_begun [calD cs, .int e, .int d] st = .ok (begunD cs e d) st := by
  unfold Q_law_begun
  rw [runD_eq]
  by_cases ez : d = 0
  · simp [B__law_begun, ez, begunD]
  · have e' : (d == 0) = false := by simpa using ez
    have hn : (0 : Int) < cs.length := by have := C.pos; omega
    have w1 := sum_pos C
    have few := C.few
    let q := (d - 1) / cs.sum
    have q0 : 0 ≤ q := Int.ediv_nonneg (by omega) (by omega)
    have hq : Sm q := sm_le q0 (Int.le_trans (Int.ediv_le_self _ (by omega)) (show d - 1 ≤ d by omega)) hsd
    have r0 := Int.emod_nonneg (d - 1) (show cs.sum ≠ 0 by omega)
    have r1 := Int.emod_lt_of_pos (d - 1) (show 0 < cs.sum by omega)
    have e0 : q * cs.sum + (d - 1) % cs.sum = d - 1 := by have := Int.mul_ediv_add_emod (d - 1) cs.sum; rw [Int.mul_comm] at this; exact this
    have e1 : fdivD (.int (d - 1)) (.int cs.sum) = some (.int q) := fdiv_ok (by omega) (cal_sm C).1
    have e2 : mulD (.int q) (.int (cs.length : Int)) = some (.int (q * cs.length)) := mul_ok hq (cal_sm C).2
    have e3 : mulD (.int q) (.int cs.sum) = some (.int (q * cs.sum)) := mul_ok hq (cal_sm C).1
    have e4 : ∀ s' : Store, rngK [.int (cs.length : Int)] s' = .ok (rngD 0 cs.length) s' := fun s' => rngK1 (by omega) (by omega)
    let P : Nat → DL.Env → Store → Prop := fun k ρ st' => st' = st ∧ ∃ (l t : Int) (x : Option Sl), ρ = [some (.sh (calD cs)), some (.sh (.int e)), some (.sh (.int d)), some (.sh (.int q)), some (.sh (.int l)), some (.sh (.int t)), x] ∧
      Sd cs t = Sd cs e - d + l ∧ 0 ≤ l ∧ (0 < l → t = e - q * cs.length - k) ∧ (l = 0 → cAt cs t = 1)
    obtain ⟨ρ2, st2, hf, hst, l, t, x, hρ, h2, h3, h4, h5⟩ := for_inv (p := .n 6) (body := sSeq (sIf (tVal (eOp gtD (eVar 4) (eC (.int 0)))) (sSeq (sSet 5 (eOp subD (eVar 5) (eC (.int 1)))) (sSeq (sSet 4 (eOp subD (eVar 4) (eIx (eVar 0) (eOp modD (eB intB (hCons (eVar 5) hNil)) (eB lenB (hCons (eVar 0) hNil)))))) sNil)) sNil) sNil) P (rngD 0 cs.length) 0
      [some (.sh (calD cs)), some (.sh (.int e)), some (.sh (.int d)), some (.sh (.int q)), some (.sh (.int (d - q * cs.sum))), some (.sh (.int (e - q * cs.length))), none] st
      ⟨rfl, _, _, _, rfl, by have := Sd_rounds C.pos (e - q * cs.length) q; rw [show e - q * (cs.length : Int) + q * cs.length = e from by omega] at this; omega, by omega, fun _ => by simp, fun h => by omega⟩ (by
        rintro j dd ρ st' hd ⟨rfl, l, t, x, rfl, h2, h3, h4, h5⟩
        have hj : j < (rngD 0 cs.length).length := (List.getElem?_eq_some_iff.mp hd).1
        rw [rngD_len] at hj
        rw [rngD_get hj] at hd
        cases hd
        have eS := Sd_succ C.pos (t - 1)
        rw [show t - 1 + 1 = t from by omega] at eS
        have eb := cAt_bit C (t - 1)
        by_cases hl : 0 < l
        · have hl' : decide (0 < l) = true := by simpa using hl
          refine ⟨_, _, _, pmat_n, by simp [calD, hl', mod_len C, cal_item C]; rfl, rfl, l - cAt cs (t - 1), t - 1, _, rfl, by omega, by omega, fun h => ?_, fun h => ?_⟩
          · rw [h4 hl]; omega
          · rcases eb with eb | eb
            · omega
            · exact eb
        · have hl' : decide (0 < l) = false := by simpa using hl
          exact ⟨_, _, _, pmat_n, by simp [hl']; rfl, rfl, l, t, _, rfl, h2, h3, fun h => absurd h hl, h5⟩)
    have l0 : l = 0 := by
      refine Classical.byContradiction fun hne => ?_
      have ht := h4 (by omega)
      rw [rngD_len] at ht
      have e5 := Sd_rounds C.pos t (q + 1)
      rw [show t + (q + 1) * (cs.length : Int) = e from by rw [Int.add_mul, Int.one_mul]; omega, Int.add_mul, Int.one_mul] at e5
      omega
    have hres := begun_uniq C (e := e) (d := d) (t := t) (by omega) (by omega) (h5 l0)
    rw [hres]
    subst hst hρ
    clear_value q
    simp only [calD] at hf
    by_cases ht : 0 ≤ t
    · have ht' : decide (0 ≤ t) = true := by simpa using ht
      simp [B__law_begun, calD, e', e1, e2, e3, e4, hf, ht, ht']
    · have ht' : decide (0 ≤ t) = false := by simpa using ht
      simp [B__law_begun, calD, e', e1, e2, e3, e4, hf, ht, ht']
theorem worked_call (C : Cal cs) {s t : Int} (h0 : 0 ≤ s) (h1 : 0 ≤ t) (hs : Sm s) (ht : Sm t) (by' : Bool) :
    Q_law_door [.int 0, calD cs, .int s, .int t, .bl by'] st = .ok (.lst [.str "told", .int (if Sd cs t - Sd cs s > 0 then Sd cs t - Sd cs s else 0)]) st := by
  unfold Q_law_door
  rw [runD_eq]
  have e := worked_ok (st := st) C h0 h1 hs ht
  cases by' <;> simp [B__law_door, sTry, e, pmut]
theorem done_call (C : Cal cs) {s d : Int} (h0 : 0 ≤ s) (h1 : 0 ≤ d) (hs : Sm s) (hsd : Sm (s + d)) (by' : Bool) :
    Q_law_door [.int 1, calD cs, .int s, .int d, .bl by'] st = .ok (.lst [.str "told", .int (doneI cs s d)]) st := by
  unfold Q_law_door
  rw [runD_eq]
  have e := done_ok (st := st) C h0 h1 hs hsd
  cases by' <;> simp [B__law_door, sTry, e, pmut]
theorem begun_call (C : Cal cs) {t d : Int} (h0 : 0 ≤ t) (h1 : 0 ≤ d) (ht : Sm t) (by' : Bool) :
    Q_law_door [.int 2, calD cs, .int t, .int d, .bl by'] st = .ok (.lst [.str "told", begunD cs t d]) st := by
  unfold Q_law_door
  rw [runD_eq]
  have e := begun_ok (st := st) C h0 h1 ht
  cases by' <;> simp [B__law_door, sTry, e, pmut]
end
end K43

/-! the comparison, what is due -/
namespace K43
open PySem DL
section
variable {cs : List Int} {st : Store}
theorem same_int (n : Nat) (i : Int) : Q_law_same_ (n + 1) [.int i, .int i] st = .ok (.bl true) st := by
  unfold Q_law_same_
  rw [runD_eq]
  simp [B__law_same, isNonD, isD]
theorem same_bl (n : Nat) (i : Bool) : Q_law_same_ (n + 1) [.bl i, .bl i] st = .ok (.bl true) st := by
  unfold Q_law_same_
  rw [runD_eq]
  simp [B__law_same, isNonD, isD]
theorem same_non (n : Nat) : Q_law_same_ (n + 1) [.non, .non] st = .ok (.bl true) st := by
  unfold Q_law_same_
  rw [runD_eq]
  simp [B__law_same, isNonD, isD]
theorem same_told (n : Nat) : Q_law_same_ (n + 1) [.str "told", .str "told"] st = .ok (.bl true) st := by
  kernel_rfl
/-- two lists of two -/
theorem same_two (n : Nat) {x y : D} (hx : Q_law_same_ (n + 1) [x, x] st = .ok (.bl true) st) (hy : Q_law_same_ (n + 1) [y, y] st = .ok (.bl true) st) : Q_law_same_ (n + 2) [.lst [x, y], .lst [x, y]] st = .ok (.bl true) st := by
  have e : rngK [.int 2] st = .ok [.int 0, .int 1] st := rngK1 (by decide) (by decide)
  have i0 : itemD (.lst [x, y]) (.int 0) = some x := rfl
  have i1 : itemD (.lst [x, y]) (.int 1) = some y := rfl
  have hq : eqD (.lst []) (.lst []) = some (.bl true) := rfl
  show runD 3 (B__law_same (Q_law_same_ (n + 1))) _ st = _
  rw [runD_eq]
  simp [B__law_same, isNonD, isD, lComp_eq, e, lenK_ok (show [D.int 0, D.int 1].length ≤ 16777216 from by decide), compL, i0, i1, hx, hy, hq]
theorem same_told_int (i : Int) : Q_law_same [.lst [.str "told", .int i], .lst [.str "told", .int i]] st = .ok (.bl true) st := same_two 2 (same_told 2) (same_int 2 i)
theorem same_told_beg (t d : Int) : Q_law_same [.lst [.str "told", begunD cs t d], .lst [.str "told", begunD cs t d]] st = .ok (.bl true) st := by
  refine same_two 2 (same_told 2) ?_
  unfold begunD
  split
  · exact same_int 2 _
  · split
    · exact same_non 2
    · exact same_int 2 _
theorem due_worked (C : Cal cs) {s t : Int} (h0 : 0 ≤ s) (h1 : 0 ≤ t) (hs : Sm s) (ht : Sm t) :
    Q_law_due [.int 0, calD cs, .int s, .int t] st = .ok (.lst [.str "told", .int (if Sd cs t - Sd cs s > 0 then Sd cs t - Sd cs s else 0)]) st := by
  unfold Q_law_due
  rw [runD_eq]
  have e := law_worked_ok (st := st) C h0 h1 hs ht
  simp [B__law_due, e]
theorem due_done (C : Cal cs) {s d : Int} (h0 : 0 ≤ s) (h1 : 0 ≤ d) (hs : Sm s) (hd : Sm d) :
    Q_law_due [.int 1, calD cs, .int s, .int d] st = .ok (.lst [.str "told", .int (doneI cs s d)]) st := by
  unfold Q_law_due
  rw [runD_eq]
  have e := law_done_ok (st := st) C h0 h1 hs hd
  simp [B__law_due, e]
theorem due_begun (C : Cal cs) {t d : Int} (h0 : 0 ≤ t) (h1 : 0 ≤ d) (hs : Sm t) (hd : Sm d) :
    Q_law_due [.int 2, calD cs, .int t, .int d] st = .ok (.lst [.str "told", begunD cs t d]) st := by
  unfold Q_law_due
  rw [runD_eq]
  have e := law_begun_ok (st := st) C h0 h1 hs hd
  simp [B__law_due, e]
/-- the door tells what is due -/
theorem door_due (C : Cal cs) {w s t : Int} (hw : w = 0 ∨ w = 1 ∨ w = 2) (h0 : 0 ≤ s) (h1 : 0 ≤ t) (hs : Sm s) (ht : Sm t) (hst : Sm (s + t)) (b : Bool) :
    ∃ x, Q_law_door [.int w, calD cs, .int s, .int t, .bl b] st = .ok x st ∧ Q_law_due [.int w, calD cs, .int s, .int t] st = .ok x st ∧ Q_law_same [x, x] st = .ok (.bl true) st := by
  rcases hw with rfl | rfl | rfl
  · exact ⟨_, worked_call C h0 h1 hs ht b, due_worked C h0 h1 hs ht, same_told_int _⟩
  · exact ⟨_, done_call C h0 h1 hs hst b, due_done C h0 h1 hs ht, same_told_int _⟩
  · exact ⟨_, begun_call C h0 h1 hs b, due_begun C h0 h1 hs ht, same_told_beg _ _⟩
end
end K43

/-! great numbers -/
namespace K43
open PySem DL
def gMax : Int := 10 ^ 242
theorem sm_g {i : Int} (h0 : 0 ≤ i) (h : i ≤ 4 * gMax) : Sm i := by
  have e : (4 * gMax).natAbs < 2 ^ 4000 := by decide +kernel
  unfold Sm
  omega
section
variable {cs : List Int} {st : Store}
abbrev gInner : SF := sSeq (sSet 8 (eCall Q_law_due (aCons (eVar 7) (aCons (eVar 1) (aCons (eVar 5) (aCons (eVar 6) aNil))))))
    (sSeq (sIf (tNot (tTru (eCall Q_law_same (aCons (eCall Q_law_door (aCons (eVar 7) (aCons (eVar 1) (aCons (eVar 5) (aCons (eVar 6) (aCons (eVar 2) aNil)))))) (aCons (eVar 8) aNil))))) (sSeq (sRet (eC (.bl false)))
    sNil) sNil)
    (sSeq (sIf (tNot (tTru (eCall Q_law_same (aCons (eCall Q_law_door (aCons (eVar 7) (aCons (eVar 1) (aCons (eVar 5) (aCons (eVar 6) (aCons (eNot (eVar 2)) aNil)))))) (aCons (eVar 8) aNil))))) (sSeq (sRet (eC (.bl false)))
    sNil) sNil)
    sNil))
theorem g_inner (C : Cal cs) {n : Nat} {b : Bool} {s t : Int} (h0 : 0 ≤ s) (h1 : 0 ≤ t) (hs : Sm s) (ht : Sm t) (hst : Sm (s + t)) (a3 a4 x7 x8 : Option Sl) :
    ∃ y7 y8, forS (.n 7) gInner [] (rngD 0 3) [some (.sh (.ref n)), some (.sh (calD cs)), some (.sh (.bl b)), a3, a4, some (.sh (.int s)), some (.sh (.int t)), x7, x8] st =
      .next [some (.sh (.ref n)), some (.sh (calD cs)), some (.sh (.bl b)), a3, a4, some (.sh (.int s)), some (.sh (.int t)), y7, y8] st := by
  obtain ⟨ρ2, st2, hf, rfl, y7, y8, rfl⟩ := for_inv (p := .n 7) (body := gInner)
    (fun k ρ st' => st' = st ∧ ∃ y7 y8, ρ = [some (.sh (.ref n)), some (.sh (calD cs)), some (.sh (.bl b)), a3, a4, some (.sh (.int s)), some (.sh (.int t)), y7, y8]) (rngD 0 3) 0 _ st ⟨rfl, x7, x8, rfl⟩ (by
      rintro j d ρ st' hd ⟨rfl, y7, y8, rfl⟩
      have hm := List.mem_of_getElem? hd
      obtain ⟨w, rfl, w0, w1⟩ := rngD_mem hm
      have hw : w = 0 ∨ w = 1 ∨ w = 2 := by omega
      obtain ⟨x, e1, e2, e3⟩ := door_due (st := st') C hw h0 h1 hs ht hst b
      obtain ⟨x', f1, f2, f3⟩ := door_due (st := st') C hw h0 h1 hs ht hst (!b)
      have hx : x' = x := by
        rw [e2] at f2
        cases f2
        rfl
      subst hx
      exact ⟨_, _, _, pmat_n, by simp [gInner, e1, e2, e3, f1]; exact ⟨rfl, rfl⟩, rfl, _, _, rfl⟩)
  exact ⟨y7, y8, hf⟩
theorem great_ok (C : Cal cs) {n B : Nat} {b : Bool} (bx : BoxAt st n B) (hB : B < 800000) : ∃ st', Q_law_great_right [.ref n, calD cs, .bl b] st = .ok (.bl true) st' ∧ BoxAt st' n (B + 60) ∧ Kept st st' n := by
  unfold Q_law_great_right
  rw [runD_eq]
  have g0 : (0 : Int) ≤ gMax ∧ (10 : Int) ^ 39 * 10 ≤ gMax ∧ (10 : Int) ^ 239 * 1000 = gMax ∧ (10 : Int) ^ 38 + 100 ≤ gMax ∧ 1000 ≤ gMax := by decide +kernel
  have p1 : powD (.int 10) (.int 39) = some (.int (10 ^ 39)) := pow_ok (k := 39) (by decide) (by decide +kernel)
  have p2 : powD (.int 10) (.int 59) = some (.int (10 ^ 59)) := pow_ok (k := 59) (by decide) (by decide +kernel)
  have p3 : powD (.int 10) (.int 60) = some (.int (10 ^ 60)) := pow_ok (k := 60) (by decide) (by decide +kernel)
  have p4 : powD (.int (10 ^ 60)) (.int 3) = some (.int ((10 ^ 60) ^ 3)) := pow_ok (k := 3) (by decide) (by decide +kernel)
  have p5 : mulD (.int (10 ^ 59)) (.int ((10 ^ 60) ^ 3)) = some (.int (10 ^ 239)) := by
    rw [mul_ok (by unfold Sm; decide +kernel) (by unfold Sm; decide +kernel)]
    congr 2
  have p6 : powD (.int 10) (.int 38) = some (.int (10 ^ 38)) := pow_ok (k := 38) (by decide) (by decide +kernel)
  generalize e39 : (10 : Int) ^ 39 = t39 at *
  generalize e59 : (10 : Int) ^ 59 = t59 at *
  generalize e60 : (10 : Int) ^ 60 = t60 at *
  generalize e38 : (10 : Int) ^ 38 = t38 at *
  generalize e239 : (10 : Int) ^ 239 = t239 at *
  generalize e180 : t60 ^ 3 = t180 at *
  have q39 : 0 ≤ t39 := by rw [← e39]; decide +kernel
  have q38 : 0 ≤ t38 := by rw [← e38]; decide +kernel
  have q239 : 0 ≤ t239 := by rw [← e239]; decide +kernel
  have e8 : ∀ s' : Store, rngK [.int 8] s' = .ok (rngD 0 8) s' := fun s' => rngK1 (by decide) (by decide)
  have e3r : ∀ s' : Store, rngK [.int 3] s' = .ok (rngD 0 3) s' := fun s' => rngK1 (by decide) (by decide)
  have turn : ∀ (B : Nat) (st : Store) (x3 x4 x5 x6 x7 x8 : Option Sl), BoxAt st n B → B < 900000 → ∃ y3 y4 y5 y6 y7 y8 st', (sSeq (sSet 4 (eOp mulD (eIx (eLst (lDisp (aCons (eOp powD (eC (.int 10)) (eC (.int 39))) (aCons (eOp mulD (eOp powD (eC (.int 10)) (eC (.int 59))) (eOp powD (eOp powD (eC (.int 10)) (eC (.int 60))) (eC (.int 3)))) (aCons (eC (.int 0)) (aCons (eC (.int 0)) aNil)))))) (eCall Q_law_take (aCons (eVar 0) (aCons (eC (.int 4)) aNil)))) (eOp addD (eC (.int 1)) (eCall Q_law_take (aCons (eVar 0) (aCons (eC (.int 9)) aNil))))))
    (sSeq (sSet 5 (eOp addD (eVar 4) (eCall Q_law_take (aCons (eVar 0) (aCons (eC (.int 70)) aNil)))))
    (sSeq (sSet 6 (eIx (eLst (lDisp (aCons (eCall Q_law_take (aCons (eVar 0) (aCons (eC (.int 90)) aNil))) (aCons (eOp addD (eOp powD (eC (.int 10)) (eC (.int 38))) (eCall Q_law_take (aCons (eVar 0) (aCons (eC (.int 99)) aNil)))) (aCons (eC (.int 0)) (aCons (eOp fdivD (eVar 5) (eC (.int 2))) (aCons (eOp mulD (eVar 5) (eC (.int 2))) (aCons (eB maxB (hCons (eC (.int 0)) (hCons (eOp subD (eOp subD (eVar 5) (eC (.int 1))) (eCall Q_law_take (aCons (eVar 0) (aCons (eC (.int 40)) aNil)))) hNil))) aNil)))))))) (eCall Q_law_take (aCons (eVar 0) (aCons (eC (.int 6)) aNil)))))
    (sSeq (sFor (iRng (aCons (eC (.int 3)) aNil)) (.n 7) gInner []) sNil)))) [some (.sh (.ref n)), some (.sh (calD cs)), some (.sh (.bl b)), x3, x4, x5, x6, x7, x8] st = .next [some (.sh (.ref n)), some (.sh (calD cs)), some (.sh (.bl b)), y3, y4, y5, y6, y7, y8] st' ∧ BoxAt st' n (B + 7) ∧ Kept st st' n := by
    intro B st x3 x4 x5 x6 x7 x8 bx hB
    obtain ⟨r1, s1, e1, g1, l1, b1, k1⟩ := take_k bx (by omega) 4 (by decide) (by decide)
    obtain ⟨r2, s2, e2, g2, l2, b2, k2⟩ := take_k b1 (by omega) 9 (by decide) (by decide)
    obtain ⟨r3, s3, e3, g3, l3, b3, k3⟩ := take_k b2 (by omega) 70 (by decide) (by decide)
    obtain ⟨r4, s4, e4, g4, l4, b4, k4⟩ := take_k b3 (by omega) 90 (by decide) (by decide)
    obtain ⟨r5, s5, e5, g5, l5, b5, k5⟩ := take_k b4 (by omega) 99 (by decide) (by decide)
    obtain ⟨r6, s6, e6, g6, l6, b6, k6⟩ := take_k b5 (by omega) 40 (by decide) (by decide)
    obtain ⟨r7, s7, e7, g7, l7, b7, k7⟩ := take_k b6 (by omega) 6 (by decide) (by decide)
    obtain ⟨v, ev, v0, v1⟩ : ∃ v : Int, atD [D.int t39, .int t239, .int 0, .int 0] r1 = some (.int v) ∧ 0 ≤ v ∧ v * 10 ≤ gMax := by
      obtain ⟨d, h1, h2⟩ := list_at (xs := [D.int t39, .int t239, .int 0, .int 0]) g1 (by simpa using l1)
      simp only [List.mem_cons, List.not_mem_nil, or_false] at h2
      rcases h2 with rfl | rfl | rfl | rfl
      · exact ⟨_, h1, by omega, by omega⟩
      · exact ⟨_, h1, by omega, by omega⟩
      · exact ⟨_, h1, by omega, by omega⟩
      · exact ⟨_, h1, by omega, by omega⟩
    have m1 : mulD (.int v) (.int (1 + r2)) = some (.int (v * (1 + r2))) := mul_ok (sm_g v0 (by omega)) (sm_int (by omega) (by omega))
    have f0 : 0 ≤ v * (1 + r2) := Int.mul_nonneg v0 (by omega)
    have f1 : v * (1 + r2) ≤ v * 9 := Int.mul_le_mul_of_nonneg_left (by omega) v0
    generalize v * (1 + r2) = base at *
    let first := base + r3
    have ff : first = base + r3 := rfl
    have m2 : fdivD (.int first) (.int 2) = some (.int (first / 2)) := fdiv_ok (by decide) (sm_int (by decide) (by decide))
    have m3 : mulD (.int first) (.int 2) = some (.int (first * 2)) := mul_ok (sm_g (by omega) (by omega)) (sm_int (by decide) (by decide))
    obtain ⟨mx, m4, mx0, mx1⟩ : ∃ mx : Int, maxB [.int 0, .int (first - 1 - r6)] = some (.int mx) ∧ 0 ≤ mx ∧ mx ≤ first := by
      refine ⟨_, rfl, ?_, ?_⟩ <;> split <;> omega
    obtain ⟨last, el, la0, la1⟩ : ∃ last : Int, atD [D.int r4, .int (t38 + r5), .int 0, .int (first / 2), .int (first * 2), .int mx] r7 = some (.int last) ∧ 0 ≤ last ∧ last ≤ 2 * gMax := by
      obtain ⟨d, h1, h2⟩ := list_at (xs := [D.int r4, .int (t38 + r5), .int 0, .int (first / 2), .int (first * 2), .int mx]) g7 (by simpa using l7)
      simp only [List.mem_cons, List.not_mem_nil, or_false] at h2
      rcases h2 with rfl | rfl | rfl | rfl | rfl | rfl <;> exact ⟨_, h1, by omega, by omega⟩
    clear_value first
    subst ff
    obtain ⟨y7, y8, hin⟩ := g_inner (st := s7) (n := n) (b := b) C (s := base + r3) (t := last) (by omega) la0 (sm_g (by omega) (by omega)) (sm_g la0 (by omega)) (sm_g (by omega) (by omega)) x3 (some (.sh (.int base))) x7 x8
    refine ⟨x3, some (.sh (.int base)), some (.sh (.int (base + r3))), some (.sh (.int last)), y7, y8, s7, ?_, b7, (((((k1.trans k2).trans k3).trans k4).trans k5).trans k6).trans k7⟩
    simp [p1, p2, p3, p4, p5, p6, e1, e2, e3, e4, e5, e6, e7, itemD_lst, ev, m1, m2, m3, m4, el, e3r, hin]
  obtain ⟨ρ2, st2, hf, hb, hk, y3, y4, y5, y6, y7, y8, rfl⟩ := for_inv (p := .n 3) (body := _)
    (fun k ρ st' => BoxAt st' n (B + 7 * k) ∧ Kept st st' n ∧ ∃ y3 y4 y5 y6 y7 y8, ρ = [some (.sh (.ref n)), some (.sh (calD cs)), some (.sh (.bl b)), y3, y4, y5, y6, y7, y8]) (rngD 0 8) 0 _ st ⟨bx, Kept.refl _ _, none, none, none, none, none, none, rfl⟩ (by
      rintro j d ρ st' hd ⟨hb, hk, y3, y4, y5, y6, y7, y8, rfl⟩
      have hj : j < (rngD 0 8).length := (List.getElem?_eq_some_iff.mp hd).1
      rw [rngD_len] at hj
      obtain ⟨z3, z4, z5, z6, z7, z8, st2, h1, h2, h3⟩ := turn (B + 7 * (0 + j)) st' (some (.sh d)) y4 y5 y6 y7 y8 hb (by omega)
      exact ⟨_, _, _, pmat_n, h1, h2.mono (by omega), hk.trans h3, _, _, _, _, _, _, rfl⟩)
  refine ⟨st2, ?_, hb.mono (by rw [rngD_len]; simp), hk⟩
  simp [B__law_great_right, e8, hf]
end
end K43

/-! day by day -/
namespace K43
open PySem DL
section
variable {cs : List Int} {st : Store}
abbrev hereE (x y : Nat) : EF := eB sumB (hCons (eLst (lComp (iRng (aCons (eVar x) (aCons (eVar y) aNil))) (.n 14) tYesF (eIx (eVar 1) (eOp modD (eB intB (hCons (eVar 14) hNil)) (eB lenB (hCons (eVar 1) hNil)))) [14])) hNil)
def hereI (cs : List Int) (s t : Int) : Int := if s ≤ t then Sd cs t - Sd cs s else 0
theorem here_comp (C : Cal cs) {s t : Int} {ρ : DL.Env} (h1 : ρ[1]? = some (some (.sh (calD cs)))) (h14 : 14 < ρ.length) :
    compL (.n 14) tYesF (eIx (eVar 1) (eOp modD (eB intB (hCons (eVar 14) hNil)) (eB lenB (hCons (eVar 1) hNil)))) ρ (rngD s t) st = .ok (((List.range (t - s).toNat).map fun (i : Nat) => cAt cs (s + i)).map D.int) st := by
  rw [comp_all (fun d => match d with | .int k => .int (cAt cs k) | d => d)]
  · congr 1
    simp only [rngD, List.map_map]
    apply List.map_congr_left
    intro k _
    simp [Function.comp]
  · intro d hd
    obtain ⟨i, rfl, _, _⟩ := rngD_mem hd
    have a1 : (ρ.set 14 (some (.sh (.int i))))[1]? = some (some (.sh (.tup (cs.map D.int)))) := by rw [List.getElem?_set_ne (by decide)]; exact h1
    have a2 : (ρ.set 14 (some (.sh (.int i))))[14]? = some (some (.sh (.int i))) := List.getElem?_set_self h14
    exact ⟨_, pmat_n, by simp [setMany_cons, eVar_sh a1, eVar_sh a2, mod_len C, cal_item C]⟩
theorem here_sum (C : Cal cs) (s t : Int) : ((List.range (t - s).toNat).map fun (i : Nat) => cAt cs (s + i)).sum = hereI cs s t := by
  rw [sum_run C]
  unfold hereI
  by_cases h : s ≤ t
  · rw [if_pos h, show s + ((t - s).toNat : Int) = t from by omega]
  · rw [if_neg h, show (t - s).toNat = 0 from by omega]
    simp
theorem here_ok (C : Cal cs) {s t : Int} {x y : Nat} {ρ : DL.Env} (hx : ρ[x]? = some (some (.sh (.int s)))) (hy : ρ[y]? = some (some (.sh (.int t)))) (h1 : ρ[1]? = some (some (.sh (calD cs)))) (h14 : 14 < ρ.length)
    (s0 : 0 ≤ s) (s1 : s < 100000) (t0 : 0 ≤ t) (t1 : t < 100000) : hereE x y ρ st = .ok (.d (.int (hereI cs s t))) st := by
  have e : rngK [.int s, .int t] st = .ok (rngD s t) st := rngK2 (by omega) (by omega) (by omega) (by omega)
  have hl : (rngD s t).length ≤ 16777216 := by rw [rngD_len]; omega
  have g1 : (killE ρ [14])[1]? = some (some (.sh (calD cs))) := by
    show (ρ.set 14 none)[1]? = _
    rw [List.getElem?_set_ne (by decide)]; exact h1
  have hc := here_comp (st := st) (s := s) (t := t) C g1 (by show 14 < (ρ.set 14 none).length; simpa using h14)
  have hs := sum_lst ((List.range (t - s).toNat).map fun (i : Nat) => cAt cs (s + i))
  rw [here_sum C] at hs
  simp only [killE_cons, killE_nil] at hc
  simp only [List.map_map] at hc hs
  simp [hereE, eVar_sh hx, eVar_sh hy, lComp_eq, e, lenK_ok hl, hc, hs]
/-- there and back tell of here -/
theorem there_iff (C : Cal cs) {s t d : Int} (hd : 0 ≤ d) (hst : s ≤ t) : (doneI cs s d ≤ t) ↔ d ≤ hereI cs s t := by
  unfold hereI
  rw [if_pos hst]
  unfold doneI
  by_cases h : d = 0
  · have := Sd_mono C hst
    rw [if_pos h]; omega
  · rw [if_neg h]
    have sp := tod_spec C (k := Sd cs s + d - 1)
    have eS := Sd_succ C.pos (todI cs (Sd cs s + d - 1))
    constructor
    · intro h1
      have := Sd_mono C (show todI cs (Sd cs s + d - 1) + 1 ≤ t by omega)
      omega
    · intro h1
      refine Classical.byContradiction fun h2 => ?_
      have := Sd_mono C (show t ≤ todI cs (Sd cs s + d - 1) by omega)
      omega
def backB (cs : List Int) (s t d : Int) : Bool := match begunD cs t d with
  | .int x => decide (s ≤ x)
  | _ => false
theorem back_iff (C : Cal cs) {s t d : Int} (hd : 0 ≤ d) (s0 : 0 ≤ s) (hst : s ≤ t) : backB cs s t d = decide (d ≤ hereI cs s t) := by
  have z := Sd_zero (cs := cs)
  have sm := Sd_mono C s0
  have sm2 := Sd_mono C hst
  unfold backB begunD hereI
  rw [if_pos hst]
  by_cases h : d = 0
  · rw [if_pos h]
    simp only [decide_eq_decide]
    omega
  · rw [if_neg h]
    by_cases hn : Sd cs t - d < 0
    · rw [if_pos hn]
      simp only [Bool.false_eq, decide_eq_false_iff_not]
      omega
    · rw [if_neg hn]
      have sp := tod_spec C (k := Sd cs t - d)
      have eS := Sd_succ C.pos (todI cs (Sd cs t - d))
      simp only [decide_eq_decide]
      constructor
      · intro h1
        have := Sd_mono C h1
        omega
      · intro h1
        refine Classical.byContradiction fun h2 => ?_
        have := Sd_mono C (show todI cs (Sd cs t - d) + 1 ≤ s by omega)
        omega
end
end K43

namespace K43
open PySem DL
section
variable {cs : List Int} {st : Store}
abbrev cnN : SF := sSeq (sIf (tVal (eOp leD (eVar 6) (eVar 7))) (sSeq (sPar [10, 11] (aCons (eIx (eCall Q_law_door (aCons (eC (.int 1)) (aCons (eVar 1) (aCons (eVar 6) (aCons (eVar 9) (aCons (eNot (eVar 3)) aNil)))))) (eC (.int 1))) (aCons (eIx (eCall Q_law_door (aCons (eC (.int 2)) (aCons (eVar 1) (aCons (eVar 7) (aCons (eVar 9) (aCons (eVar 3) aNil)))))) (eC (.int 1))) aNil)))
    (sSeq (sIf (DL.tOr (tVal (eOp neD (eOp geD (eVar 8) (eVar 9)) (eOp leD (eVar 10) (eVar 7)))) (tVal (eOp neD (eOp geD (eVar 8) (eVar 9)) (eAnd (eOp isNotD (eVar 11) (eC .non)) (eOp geD (eVar 11) (eVar 6)))))) (sSeq (sRet (eC (.bl false)))
    sNil) sNil)
    sNil)) sNil)
    sNil
theorem cn_turn (C : Cal cs) {b : Bool} {s t d : Int} (s0 : 0 ≤ s) (s1 : s < 1000) (t0 : 0 ≤ t) (t1 : t < 1000) (d0 : 0 ≤ d) (d1 : d < 1000) (a0 a2 a4 a5 a10 a11 a12 a13 a14 : Option Sl) :
    ∃ y10 y11, cnN [a0, some (.sh (calD cs)), a2, some (.sh (.bl b)), a4, a5, some (.sh (.int s)), some (.sh (.int t)), some (.sh (.int (hereI cs s t))), some (.sh (.int d)), a10, a11, a12, a13, a14] st =
      .next [a0, some (.sh (calD cs)), a2, some (.sh (.bl b)), a4, a5, some (.sh (.int s)), some (.sh (.int t)), some (.sh (.int (hereI cs s t))), some (.sh (.int d)), y10, y11, a12, a13, a14] st := by
  by_cases hst : s ≤ t
  · have hst' : decide (s ≤ t) = true := by simpa using hst
    have e1 := done_call (st := st) C s0 d0 (sm_int (by omega) (by omega)) (sm_int (i := s + d) (by omega) (by omega)) (!b)
    have e2 := begun_call (st := st) C t0 d0 (sm_int (by omega) (by omega)) b
    have i1 : ∀ x y : D, itemD (.lst [x, y]) (.int 1) = some y := fun _ _ => rfl
    have c1 : (decide (d ≤ hereI cs s t) == decide (doneI cs s d ≤ t)) = true := by
      have := there_iff C d0 hst
      simp [this]
    have c2 := back_iff C d0 s0 hst
    refine ⟨some (.sh (.int (doneI cs s d))), some (.sh (begunD cs t d)), ?_⟩
    have hb : (∃ x, begunD cs t d = .int x) ∨ begunD cs t d = .non := by
      unfold begunD
      split
      · exact .inl ⟨_, rfl⟩
      · split
        · exact .inr rfl
        · exact .inl ⟨_, rfl⟩
    rcases hb with ⟨x, hb⟩ | hb
    · have c3 : decide (s ≤ x) = decide (d ≤ hereI cs s t) := by rw [← c2]; simp [backB, hb]
      rw [hb] at e2 ⊢
      simp [cnN, hst', e1, e2, i1, c1, isNotD, c3]
    · have c3 : decide (d ≤ hereI cs s t) = false := by rw [← c2]; simp [backB, hb]
      have c4 : decide (doneI cs s d ≤ t) = false := by rw [← c3, decide_eq_decide]; exact there_iff C d0 hst
      rw [hb] at e2 ⊢
      simp [cnN, hst', e1, e2, i1, isNotD, c3, c4]
  · have hst' : decide (s ≤ t) = false := by simpa using hst
    refine ⟨a10, a11, ?_⟩
    simp [cnN, hst']
end
end K43

namespace K43
open PySem DL
section
variable {cs : List Int} {st : Store}
/-- the numbers that are asked -/
theorem cn_loop (C : Cal cs) {b : Bool} {s t m : Int} (s0 : 0 ≤ s) (s1 : s < 1000) (t0 : 0 ≤ t) (t1 : t < 1000) (m0 : 0 ≤ m) (m1 : m < 1000) (a0 a2 a4 a5 a9 a10 a11 a12 a13 a14 : Option Sl) :
    ∃ y9 y10 y11, forS (.n 9) cnN [] [.int 0, .int 1, .int m] [a0, some (.sh (calD cs)), a2, some (.sh (.bl b)), a4, a5, some (.sh (.int s)), some (.sh (.int t)), some (.sh (.int (hereI cs s t))), a9, a10, a11, a12, a13, a14] st =
      .next [a0, some (.sh (calD cs)), a2, some (.sh (.bl b)), a4, a5, some (.sh (.int s)), some (.sh (.int t)), some (.sh (.int (hereI cs s t))), y9, y10, y11, a12, a13, a14] st := by
  obtain ⟨ρ2, st2, hf, rfl, y9, y10, y11, rfl⟩ := for_inv (p := .n 9) (body := cnN)
    (fun k ρ st' => st' = st ∧ ∃ y9 y10 y11, ρ = [a0, some (.sh (calD cs)), a2, some (.sh (.bl b)), a4, a5, some (.sh (.int s)), some (.sh (.int t)), some (.sh (.int (hereI cs s t))), y9, y10, y11, a12, a13, a14]) [.int 0, .int 1, .int m] 0 _ st ⟨rfl, a9, a10, a11, rfl⟩ (by
      rintro j d ρ st' hd ⟨rfl, y9, y10, y11, rfl⟩
      have hm := List.mem_of_getElem? hd
      simp only [List.mem_cons, List.not_mem_nil, or_false] at hm
      obtain ⟨i, rfl, i0, i1⟩ : ∃ i : Int, d = .int i ∧ 0 ≤ i ∧ i < 1000 := by
        rcases hm with rfl | rfl | rfl
        · exact ⟨_, rfl, by decide, by decide⟩
        · exact ⟨_, rfl, by decide, by decide⟩
        · exact ⟨_, rfl, m0, m1⟩
      obtain ⟨z10, z11, e⟩ := cn_turn (st := st') C (b := b) s0 s1 t0 t1 i0 i1 a0 a2 a4 a5 y10 y11 a12 a13 a14
      exact ⟨_, _, _, pmat_n, e, rfl, _, _, _, rfl⟩)
  exact ⟨y9, y10, y11, hf⟩
theorem worked_here (C : Cal cs) (s t : Int) : (if Sd cs t - Sd cs s > 0 then Sd cs t - Sd cs s else 0) = hereI cs s t := by
  unfold hereI
  by_cases h : s ≤ t
  · have := Sd_mono C h
    rw [if_pos h]
    split <;> omega
  · have := Sd_mono C (show t ≤ s by omega)
    rw [if_neg h, if_neg (by omega)]
abbrev cnT : SF := sSeq (sSet 8 (hereE 6 7))
    (sSeq (sIf (tNot (tTru (eCall Q_law_same (aCons (eCall Q_law_door (aCons (eC (.int 0)) (aCons (eVar 1) (aCons (eVar 6) (aCons (eVar 7) (aCons (eVar 3) aNil)))))) (aCons (eLst (lDisp (aCons (eC (.str "told")) (aCons (eVar 8) aNil)))) aNil))))) (sSeq (sRet (eC (.bl false)))
    sNil) sNil)
    (sSeq (sFor (iData (eVar 5)) (.n 9) cnN [])
    sNil))
theorem cn_t (C : Cal cs) {b : Bool} {s t m : Int} (s0 : 0 ≤ s) (s1 : s < 1000) (t0 : 0 ≤ t) (t1 : t < 1000) (m0 : 0 ≤ m) (m1 : m < 1000) (a0 a2 a4 a8 a9 a10 a11 a12 a13 a14 : Option Sl) :
    ∃ y9 y10 y11, cnT [a0, some (.sh (calD cs)), a2, some (.sh (.bl b)), a4, some (.sh (.lst [.int 0, .int 1, .int m])), some (.sh (.int s)), some (.sh (.int t)), a8, a9, a10, a11, a12, a13, a14] st =
      .next [a0, some (.sh (calD cs)), a2, some (.sh (.bl b)), a4, some (.sh (.lst [.int 0, .int 1, .int m])), some (.sh (.int s)), some (.sh (.int t)), some (.sh (.int (hereI cs s t))), y9, y10, y11, a12, a13, a14] st := by
  obtain ⟨y9, y10, y11, hl⟩ := cn_loop (st := st) C (b := b) s0 s1 t0 t1 m0 m1 a0 a2 a4 (some (.sh (.lst [.int 0, .int 1, .int m]))) a9 a10 a11 a12 a13 a14
  have hh := here_ok (st := st) (x := 6) (y := 7) (s := s) (t := t) C (ρ := [a0, some (.sh (calD cs)), a2, some (.sh (.bl b)), a4, some (.sh (.lst [.int 0, .int 1, .int m])), some (.sh (.int s)), some (.sh (.int t)), a8, a9, a10, a11, a12, a13, a14]) rfl rfl rfl (by simp) s0 (by omega) t0 (by omega)
  have e1 := worked_call (st := st) C s0 t0 (sm_int (by omega) (by omega)) (sm_int (by omega) (by omega)) b
  rw [worked_here C] at e1
  have e2 := same_told_int (st := st) (hereI cs s t)
  refine ⟨y9, y10, y11, ?_⟩
  have step : sSet 8 (hereE 6 7) [a0, some (.sh (calD cs)), a2, some (.sh (.bl b)), a4, some (.sh (.lst [.int 0, .int 1, .int m])), some (.sh (.int s)), some (.sh (.int t)), a8, a9, a10, a11, a12, a13, a14] st =
      .next [a0, some (.sh (calD cs)), a2, some (.sh (.bl b)), a4, some (.sh (.lst [.int 0, .int 1, .int m])), some (.sh (.int s)), some (.sh (.int t)), some (.sh (.int (hereI cs s t))), a9, a10, a11, a12, a13, a14] st := by
    rw [sSet_eq, eTake_eq, hh]
    simp
  unfold cnT
  rw [sSeq_eq, step, seq_next]
  simp [e1, e2, hl]
end
end K43

namespace K43
open PySem DL
section
variable {cs : List Int} {st : Store}
/-- small times -/
def SmallL (ds : List D) : Prop := ∀ d ∈ ds, ∃ i : Int, d = .int i ∧ 0 ≤ i ∧ i < 1000
theorem cn_ts (C : Cal cs) {b : Bool} {s m : Int} {ts : List D} (hts : SmallL ts) (s0 : 0 ≤ s) (s1 : s < 1000) (m0 : 0 ≤ m) (m1 : m < 1000) (a0 a2 a4 a7 a8 a9 a10 a11 a12 a13 a14 : Option Sl) :
    ∃ y7 y8 y9 y10 y11, forS (.n 7) cnT [] ts [a0, some (.sh (calD cs)), a2, some (.sh (.bl b)), a4, some (.sh (.lst [.int 0, .int 1, .int m])), some (.sh (.int s)), a7, a8, a9, a10, a11, a12, a13, a14] st =
      .next [a0, some (.sh (calD cs)), a2, some (.sh (.bl b)), a4, some (.sh (.lst [.int 0, .int 1, .int m])), some (.sh (.int s)), y7, y8, y9, y10, y11, a12, a13, a14] st := by
  obtain ⟨ρ2, st2, hf, rfl, y7, y8, y9, y10, y11, rfl⟩ := for_inv (p := .n 7) (body := cnT)
    (fun k ρ st' => st' = st ∧ ∃ y7 y8 y9 y10 y11, ρ = [a0, some (.sh (calD cs)), a2, some (.sh (.bl b)), a4, some (.sh (.lst [.int 0, .int 1, .int m])), some (.sh (.int s)), y7, y8, y9, y10, y11, a12, a13, a14]) ts 0 _ st ⟨rfl, a7, a8, a9, a10, a11, rfl⟩ (by
      rintro j d ρ st' hd ⟨rfl, y7, y8, y9, y10, y11, rfl⟩
      obtain ⟨i, rfl, i0, i1⟩ := hts d (List.mem_of_getElem? hd)
      obtain ⟨z9, z10, z11, e⟩ := cn_t (st := st') C (b := b) s0 s1 i0 i1 m0 m1 a0 a2 a4 y8 y9 y10 y11 a12 a13 a14
      exact ⟨_, _, _, pmat_n, e, rfl, _, _, _, _, _, rfl⟩)
  exact ⟨y7, y8, y9, y10, y11, hf⟩
theorem cn_ss (C : Cal cs) {b : Bool} {m : Int} {ts ss : List D} (hts : SmallL ts) (hss : SmallL ss) (m0 : 0 ≤ m) (m1 : m < 1000) (a0 a2 a6 a7 a8 a9 a10 a11 a12 a13 a14 : Option Sl) :
    ∃ y6 y7 y8 y9 y10 y11, forS (.n 6) (sSeq (sFor (iData (eVar 4)) (.n 7) cnT []) sNil) [] ss [a0, some (.sh (calD cs)), a2, some (.sh (.bl b)), some (.sh (.lst ts)), some (.sh (.lst [.int 0, .int 1, .int m])), a6, a7, a8, a9, a10, a11, a12, a13, a14] st =
      .next [a0, some (.sh (calD cs)), a2, some (.sh (.bl b)), some (.sh (.lst ts)), some (.sh (.lst [.int 0, .int 1, .int m])), y6, y7, y8, y9, y10, y11, a12, a13, a14] st := by
  obtain ⟨ρ2, st2, hf, rfl, y6, y7, y8, y9, y10, y11, rfl⟩ := for_inv (p := .n 6) (body := sSeq (sFor (iData (eVar 4)) (.n 7) cnT []) sNil)
    (fun k ρ st' => st' = st ∧ ∃ y6 y7 y8 y9 y10 y11, ρ = [a0, some (.sh (calD cs)), a2, some (.sh (.bl b)), some (.sh (.lst ts)), some (.sh (.lst [.int 0, .int 1, .int m])), y6, y7, y8, y9, y10, y11, a12, a13, a14]) ss 0 _ st ⟨rfl, a6, a7, a8, a9, a10, a11, rfl⟩ (by
      rintro j d ρ st' hd ⟨rfl, y6, y7, y8, y9, y10, y11, rfl⟩
      obtain ⟨i, rfl, i0, i1⟩ := hss d (List.mem_of_getElem? hd)
      obtain ⟨z7, z8, z9, z10, z11, e⟩ := cn_ts (st := st') C (b := b) hts i0 i1 m0 m1 a0 a2 (some (.sh (.lst ts))) y7 y8 y9 y10 y11 a12 a13 a14
      exact ⟨_, _, _, pmat_n, by simp [e]; exact ⟨rfl, rfl, rfl, rfl, rfl, rfl⟩, rfl, _, _, _, _, _, _, rfl⟩)
  exact ⟨y6, y7, y8, y9, y10, y11, hf⟩
end
end K43

namespace K43
open PySem DL
section
variable {cs : List Int} {st : Store}
theorem Sd_31 (C : Cal cs) (s : Int) (k : Nat) : Sd cs s + k ≤ Sd cs (s + 31 * k) := by
  have w1 := sum_pos C
  have few := C.few
  induction k with
  | zero => simp
  | succ k ih =>
    have e := Sd_rounds C.pos (s + 31 * k) 1
    have m := Sd_mono C (show s + 31 * (k : Int) + 1 * cs.length ≤ s + 31 * ((k + 1 : Nat) : Int) by omega)
    omega
theorem least_done (C : Cal cs) {s d t : Int} (hd : 0 ≤ d) (hst : s ≤ t) (h1 : d ≤ Sd cs t - Sd cs s) (h2 : ∀ u, s ≤ u → u < t → Sd cs u - Sd cs s < d) : doneI cs s d = t := by
  by_cases h : d = 0
  · unfold doneI
    rw [if_pos h]
    refine Classical.byContradiction fun hne => ?_
    have := h2 s (by omega) (by omega)
    omega
  · have hlt : s < t := by
      refine Classical.byContradiction fun hne => ?_
      have : s = t := by omega
      subst this
      omega
    have e := Sd_succ C.pos (t - 1)
    rw [show t - 1 + 1 = t from by omega] at e
    have b := cAt_bit C (t - 1)
    have := h2 (t - 1) (by omega) (by omega)
    exact done_uniq C (by omega) (by omega) (by omega)
abbrev cnS : SF := sSeq (sIf (tVal (eOp geD (hereE 2 10) (eVar 9))) (sSeq sBrk
    sNil) sNil)
    (sSeq (sSet 10 (eOp addD (eVar 10) (eC (.int 1))))
    sNil)
theorem cn_search (C : Cal cs) {f : Int} {d : Nat} (f0 : 0 ≤ f) (f1 : f < 1000) (d1 : d < 1000) (a0 a3 a4 a5 a6 a7 a8 a11 a12 a13 a14 : Option Sl) :
    ∃ y12, forS (.n 12) cnS [] (rngD 0 (31 * (d : Int) + 1)) [a0, some (.sh (calD cs)), some (.sh (.int f)), a3, a4, a5, a6, a7, a8, some (.sh (.int d)), some (.sh (.int f)), a11, a12, a13, a14] st =
      .next [a0, some (.sh (calD cs)), some (.sh (.int f)), a3, a4, a5, a6, a7, a8, some (.sh (.int d)), some (.sh (.int (doneI cs f d))), a11, y12, a13, a14] st := by
  obtain ⟨ρ2, st2, hf, hend⟩ := for_brk (p := .n 12) (body := cnS)
    (fun k ρ st' => st' = st ∧ (∀ u, f ≤ u → u < f + k → Sd cs u - Sd cs f < d) ∧ ∃ y12, ρ = [a0, some (.sh (calD cs)), some (.sh (.int f)), a3, a4, a5, a6, a7, a8, some (.sh (.int d)), some (.sh (.int (f + k))), a11, y12, a13, a14])
    (fun ρ st' => st' = st ∧ ∃ y12, ρ = [a0, some (.sh (calD cs)), some (.sh (.int f)), a3, a4, a5, a6, a7, a8, some (.sh (.int d)), some (.sh (.int (doneI cs f d))), a11, y12, a13, a14])
    (rngD 0 (31 * (d : Int) + 1)) 0 [a0, some (.sh (calD cs)), some (.sh (.int f)), a3, a4, a5, a6, a7, a8, some (.sh (.int d)), some (.sh (.int f)), a11, a12, a13, a14] st ⟨rfl, fun u h1 h2 => by omega, a12, by simp⟩ (by
      rintro j x ρ st' hd ⟨rfl, hu, y12, rfl⟩
      have hj : j < (rngD 0 (31 * (d : Int) + 1)).length := (List.getElem?_eq_some_iff.mp hd).1
      rw [rngD_len] at hj
      rw [rngD_get hj, Int.zero_add] at hd
      cases hd
      simp only [Nat.zero_add] at hu ⊢
      have hh := here_ok (st := st') (x := 2) (y := 10) (s := f) (t := f + (j : Int)) C (ρ := [a0, some (.sh (calD cs)), some (.sh (.int f)), a3, a4, a5, a6, a7, a8, some (.sh (.int d)), some (.sh (.int (f + (j : Int)))), a11, some (.sh (.int (j : Int))), a13, a14]) rfl rfl rfl (by simp) f0 (by omega) (by omega) (by omega)
      have hI : hereI cs f (f + (j : Int)) = Sd cs (f + (j : Int)) - Sd cs f := by
        unfold hereI
        rw [if_pos (by omega)]
      rw [hI] at hh
      by_cases hc : (d : Int) ≤ Sd cs (f + (j : Int)) - Sd cs f
      · have hc' : decide ((d : Int) ≤ Sd cs (f + (j : Int)) - Sd cs f) = true := by simpa using hc
        have e := least_done C (s := f) (d := d) (t := f + (j : Int)) (by omega) (by omega) hc hu
        refine ⟨_, _, _, pmat_n, .inr ⟨?_, rfl, some (.sh (.int (j : Int))), rfl⟩⟩
        rw [e]
        unfold cnS
        simp only [setMany_cons, setMany_nil, List.set_cons_succ, List.set_cons_zero, sSeq_eq, sIf_eq, tVal_eq, eOp_eq, hh]
        simp [hc']
      · have hc' : decide ((d : Int) ≤ Sd cs (f + (j : Int)) - Sd cs f) = false := by simpa using hc
        refine ⟨_, [a0, some (.sh (calD cs)), some (.sh (.int f)), a3, a4, a5, a6, a7, a8, some (.sh (.int d)), some (.sh (.int (f + ((j + 1 : Nat) : Int)))), a11, some (.sh (.int (j : Int))), a13, a14], _, pmat_n, .inl ⟨?_, rfl, fun u h1 h2 => ?_, _, rfl⟩⟩
        · unfold cnS
          simp only [setMany_cons, setMany_nil, List.set_cons_succ, List.set_cons_zero, sSeq_eq, sIf_eq, tVal_eq, eOp_eq, hh]
          simp [hc']
          omega
        · by_cases hlt : u < f + (j : Int)
          · exact hu u h1 hlt
          · rw [show u = f + (j : Int) from by omega]
            omega)
  rcases hend with ⟨rfl, hu, y12, rfl⟩ | ⟨rfl, y12, rfl⟩
  · have h31 := Sd_31 C f d
    have := hu (f + 31 * d) (by omega) (by rw [rngD_len]; omega)
    omega
  · exact ⟨y12, hf⟩
end
end K43

namespace K43
open PySem DL
section
variable {cs : List Int} {st : Store}
abbrev cnE : SF := sSeq (sSet 10 (eVar 2))
    (sSeq (sFor (iRng (aCons (eOp addD (eOp mulD (eC (.int 31)) (eVar 9)) (eC (.int 1))) aNil)) (.n 12) cnS [])
    (sSeq (sIf (tNot (tTru (eCall Q_law_same (aCons (eCall Q_law_door (aCons (eC (.int 1)) (aCons (eVar 1) (aCons (eVar 2) (aCons (eVar 9) (aCons (eVar 3) aNil)))))) (aCons (eLst (lDisp (aCons (eC (.str "told")) (aCons (eVar 10) aNil)))) aNil))))) (sSeq (sRet (eC (.bl false)))
    sNil) sNil)
    sNil))
theorem cn_e (C : Cal cs) {b : Bool} {f : Int} {d : Nat} (f0 : 0 ≤ f) (f1 : f < 1000) (d1 : d < 1000) (a0 a4 a5 a6 a7 a8 a10 a11 a12 a13 a14 : Option Sl) :
    ∃ y10 y12, cnE [a0, some (.sh (calD cs)), some (.sh (.int f)), some (.sh (.bl b)), a4, a5, a6, a7, a8, some (.sh (.int d)), a10, a11, a12, a13, a14] st =
      .next [a0, some (.sh (calD cs)), some (.sh (.int f)), some (.sh (.bl b)), a4, a5, a6, a7, a8, some (.sh (.int d)), y10, a11, y12, a13, a14] st := by
  obtain ⟨y12, hs⟩ := cn_search (st := st) C f0 f1 d1 a0 (some (.sh (.bl b))) a4 a5 a6 a7 a8 a11 a12 a13 a14
  have e1 := done_call (st := st) C (s := f) (d := d) f0 (by omega) (sm_int (by omega) (by omega)) (sm_int (by omega) (by omega)) b
  have e2 := same_told_int (st := st) (doneI cs f d)
  have m : mulD (.int 31) (.int (d : Int)) = some (.int (31 * (d : Int))) := mul_ok (sm_int (by decide) (by decide)) (sm_int (by omega) (by omega))
  have er : rngK [.int (31 * (d : Int) + 1)] st = .ok (rngD 0 (31 * (d : Int) + 1)) st := rngK1 (by omega) (by omega)
  refine ⟨some (.sh (.int (doneI cs f d))), y12, ?_⟩
  simp [cnE, m, er, hs, e1, e2]
theorem cn_es (C : Cal cs) {b : Bool} {f : Int} {m : Int} (f0 : 0 ≤ f) (f1 : f < 1000) (m0 : 0 ≤ m) (m1 : m < 1000) (a0 a4 a5 a6 a7 a8 a9 a10 a11 a12 a13 a14 : Option Sl) :
    ∃ y9 y10 y12, forS (.n 9) cnE [] [.int 0, .int 1, .int m] [a0, some (.sh (calD cs)), some (.sh (.int f)), some (.sh (.bl b)), a4, a5, a6, a7, a8, a9, a10, a11, a12, a13, a14] st =
      .next [a0, some (.sh (calD cs)), some (.sh (.int f)), some (.sh (.bl b)), a4, a5, a6, a7, a8, y9, y10, a11, y12, a13, a14] st := by
  obtain ⟨ρ2, st2, hf, rfl, y9, y10, y12, rfl⟩ := for_inv (p := .n 9) (body := cnE)
    (fun k ρ st' => st' = st ∧ ∃ y9 y10 y12, ρ = [a0, some (.sh (calD cs)), some (.sh (.int f)), some (.sh (.bl b)), a4, a5, a6, a7, a8, y9, y10, a11, y12, a13, a14]) [.int 0, .int 1, .int m] 0 _ st ⟨rfl, a9, a10, a12, rfl⟩ (by
      rintro j d ρ st' hd ⟨rfl, y9, y10, y12, rfl⟩
      have hm := List.mem_of_getElem? hd
      simp only [List.mem_cons, List.not_mem_nil, or_false] at hm
      obtain ⟨i, rfl, i1⟩ : ∃ i : Nat, d = .int (i : Int) ∧ i < 1000 := by
        rcases hm with rfl | rfl | rfl
        · exact ⟨0, rfl, by decide⟩
        · exact ⟨1, rfl, by decide⟩
        · exact ⟨m.toNat, by rw [Int.toNat_of_nonneg m0], by omega⟩
      obtain ⟨z10, z12, e⟩ := cn_e (st := st') C (b := b) f0 f1 i1 a0 a4 a5 a6 a7 a8 y10 a11 y12 a13 a14
      exact ⟨_, _, _, pmat_n, e, rfl, _, _, _, rfl⟩)
  exact ⟨y9, y10, y12, hf⟩
end
end K43

namespace K43
open PySem DL
section
variable {cs : List Int} {st : Store}
theorem counted_ok (C : Cal cs) {n B : Nat} {b : Bool} {f : Int} (f0 : 0 ≤ f) (f1 : f < 100) (bx : BoxAt st n B) (hB : B < 900000) : ∃ st', Q_law_counted_right [.ref n, calD cs, .int f, .bl b] st = .ok (.bl true) st' ∧ BoxAt st' n (B + 1) ∧ Kept st st' n := by
  obtain ⟨r, s1, e1, g1, l1, b1, k1⟩ := take_k bx (by omega) 9 (by decide) (by decide)
  unfold Q_law_counted_right
  rw [runD_eq]
  let ts : List D := (rngD 0 9).map fun d => match d with | .int k => .int (f + k) | d => d
  have hts : SmallL ts := by
    intro d hd
    obtain ⟨x, hx, rfl⟩ := List.mem_map.mp hd
    obtain ⟨i, rfl, i0, i1⟩ := rngD_mem hx
    exact ⟨f + i, rfl, by omega, by omega⟩
  have hss : SmallL (ts.take 5) := fun d hd => hts d (List.mem_of_mem_take hd)
  have hcomp : compL (.n 13) tYesF (eOp addD (eVar 2) (eVar 13)) [some (.sh (.ref n)), some (.sh (calD cs)), some (.sh (.int f)), some (.sh (.bl b)), none, none, none, none, none, none, none, none, none, none, none] (rngD 0 9) st = .ok ts st := by
    refine comp_all _ fun d hd => ?_
    obtain ⟨i, rfl, i0, i1⟩ := rngD_mem hd
    exact ⟨_, pmat_n, by simp⟩
  have e9 : rngK [.int 9] st = .ok (rngD 0 9) st := rngK1 (by decide) (by decide)
  have hl9 : (rngD 0 9).length ≤ 16777216 := by rw [rngD_len]; decide
  have hsl : sliceD (.lst ts) none (some 5) = some (.lst (ts.take 5)) := rfl
  obtain ⟨y6, y7, y8, y9, y10, y11, h1⟩ := cn_ss (st := s1) C (b := b) (m := 1 + r) hts hss (by omega) (by omega) (some (.sh (.ref n))) (some (.sh (.int f))) none none none none none none none none none
  obtain ⟨z9, z10, z12, h2⟩ := cn_es (st := s1) C (b := b) (f := f) (m := 1 + r) f0 (by omega) (by omega) (by omega) (some (.sh (.ref n))) (some (.sh (.lst ts))) (some (.sh (.lst [.int 0, .int 1, .int (1 + r)]))) y6 y7 y8 y9 y10 y11 none none none
  clear_value ts
  refine ⟨s1, ?_, b1, k1⟩
  simp [B__law_counted_right, lComp_eq, e9, lenK_ok hl9, hcomp, e1, hsl, h1, h2]
end
end K43

namespace K43
open PySem DL
section
variable {cs : List Int} {st : Store}
theorem okDs_mem : ∀ {ds : List D}, okDs ds = true ↔ ∀ d ∈ ds, okD d = true
  | [] => by simp [okDs]
  | d :: ds => by simp [okDs, okDs_mem (ds := ds)]
theorem depDs_le : ∀ {ds : List D} {k : Nat}, depDs ds ≤ k ↔ ∀ d ∈ ds, depD d ≤ k
  | [], k => by simp [depDs]
  | d :: ds, k => by
    have := depDs_le (ds := ds) (k := k)
    simp only [depDs, List.mem_cons, forall_eq_or_imp, ← this]
    omega
theorem notin01 {i : Int} : notInD (.int i) (.lst [.int 0, .int 1]) = some (.bl (!(i == 0 || i == 1))) := by
  have : notInD (.int i) (.lst [.int 0, .int 1]) = some (.bl (!((0 : Int) == i || (1 : Int) == i))) := by simp [notInD, fineD, okD, okDs, depD, depDs, eqvD]
  rw [this, beq_swap, beq_swap (a := 1)]
theorem bad_empty : ∀ (xs : List D), ((xs.filter fun x => !bitB x).isEmpty) = xs.all bitB
  | [] => rfl
  | x :: xs => by
    have := bad_empty xs
    cases h : bitB x <;> simp_all
theorem eq_nil {ds : List D} (h1 : okDs ds = true) (h2 : depDs ds ≤ 50) : eqD (.lst ds) (.lst []) = some (.bl ds.isEmpty) := by
  have f : fineD (.lst ds) = true := by simp [fineD, okD, h1, depD]; omega
  have f2 : fineD (.lst []) = true := rfl
  show (if (fineD (.lst ds) && fineD (.lst [])) = true then some (D.bl (eqvD (.lst ds) (.lst []))) else none) = _
  rw [f, f2]
  cases ds <;> rfl
end
end K43

namespace K43
open PySem DL
section
variable {cs : List Int} {st : Store}
theorem bits_ints : ∀ {xs : List D}, xs.all bitB = true → ∃ cs : List Int, xs = cs.map D.int ∧ ∀ c ∈ cs, c = 0 ∨ c = 1
  | [], _ => ⟨[], rfl, by simp⟩
  | x :: xs, h => by
    simp only [List.all_cons, Bool.and_eq_true] at h
    obtain ⟨cs, e, hb⟩ := bits_ints h.2
    cases x with
    | int i =>
      refine ⟨i :: cs, by rw [e]; rfl, fun c hc => ?_⟩
      rcases List.mem_cons.mp hc with rfl | hc
      · simpa [bitB] using h.1
      · exact hb c hc
    | _ => simp [bitB] at h
theorem law_is_calendar_ok {v : D} (h : Askd st v) (hok : ∀ xs, v = .tup xs → okDs xs = true ∧ depDs xs ≤ 50) : Q_law_is_calendar [v] st = .ok (.bl (calB v)) st := by
  obtain ⟨r, hr, hx⟩ := h
  unfold Q_law_is_calendar
  rw [runD_eq]
  by_cases ht : ∃ xs, r = .tup xs
  · obtain ⟨xs, rfl⟩ := ht
    obtain rfl := root_self hr (by simp)
    obtain ⟨ok1, ok2⟩ := hok xs rfl
    by_cases h1 : 1 ≤ xs.length
    · by_cases h2 : xs.length ≤ 31
      · have c1 : decide ((1 : Int) ≤ (xs.length : Int)) = true := by simp; omega
        have c2 : decide ((xs.length : Int) ≤ 31) = true := by simp; omega
        have hcomp : compL (.n 1) (DL.tOr (tNot (tTru (eCall Q_law_is_int (aCons (eVar 1) aNil)))) (tVal (eOp notInD (eVar 1) (eLst (lDisp (aCons (eC (.int 0)) (aCons (eC (.int 1)) aNil))))))) (eVar 1) [some (.sh (.tup xs)), none] xs st = .ok ((xs.filter fun x => !bitB x).map id) st := by
          refine comp_pure (fun x => !bitB x) id xs fun x hm => ⟨_, pmat_n, ?_, fun _ => by simp⟩
          obtain ⟨y, hy⟩ := hx xs rfl x hm
          by_cases hi : ∃ i, y = .int i
          · obtain ⟨i, rfl⟩ := hi
            obtain rfl := root_self hy (by simp)
            simp [law_is_int_ok hy, isIntD, notin01, bitB]
          · have : isIntD y = false := by cases y <;> first | rfl | exact absurd ⟨_, rfl⟩ hi
            have b0 : bitB x = false := by rw [bit_int hy]; cases y <;> first | rfl | exact absurd ⟨_, rfl⟩ hi
            simp [law_is_int_ok hy, this, b0]
        have hn := eq_nil (ds := xs.filter fun x => !bitB x) (okDs_mem.mpr fun d hd => okDs_mem.mp ok1 d (List.mem_filter.mp hd).1) (depDs_le.mpr fun d hd => depDs_le.mp ok2 d (List.mem_filter.mp hd).1)
        rw [bad_empty] at hn
        rw [List.map_id] at hcomp
        by_cases ha : xs.all bitB = true
        · rw [ha] at hn
          obtain ⟨cs, rfl, hb⟩ := bits_ints ha
          obtain ⟨m, e1, e2, e3⟩ := maxI_bits hb (by simpa using h1)
          have emax : maxB [.tup (cs.map .int)] = some (.int m) := by
            show ((intsD _).bind maxI).map D.int = _
            rw [intsD_map, Option.bind_some, e1]
            rfl
          have hany : (cs.map D.int).any oneB = (m == 1) := by
            rw [Bool.eq_iff_iff, beq_iff_eq, e3]
            simp [oneB]
          simp only [calB, ha, hany, h1, h2, decide_true, Bool.and_self, Bool.true_and]
          simp only [List.length_map] at c1 c2 h1 h2
          simp [B__law_is_calendar, isD, c1, c2, lComp_eq, lenK_ok (show (cs.map D.int).length ≤ 16777216 by simp; omega), hcomp, hn, emax, -List.filter_map]
        · have ha' : xs.all bitB = false := by simpa using ha
          rw [ha'] at hn
          simp only [calB, ha', Bool.and_false, Bool.false_and]
          simp [B__law_is_calendar, isD, c1, c2, lComp_eq, lenK_ok (show xs.length ≤ 16777216 by omega), hcomp, hn]
      · have c1 : decide ((1 : Int) ≤ (xs.length : Int)) = true := by simp; omega
        have c2 : decide ((xs.length : Int) ≤ 31) = false := by simp; omega
        simp [B__law_is_calendar, isD, c1, c2, calB, h2]
    · have c1 : decide ((1 : Int) ≤ (xs.length : Int)) = false := by simp; omega
      simp [B__law_is_calendar, isD, c1, calB, h1]
  · have hf : isD "tuple" r = some false := by cases r <;> first | rfl | exact absurd ⟨_, rfl⟩ ht | exact absurd hr root_ne_ref
    have hc : calB v = false := by
      cases v with
      | tup xs => cases hr; exact absurd ⟨_, rfl⟩ ht
      | _ => rfl
    simp [B__law_is_calendar, hr, hf, hc]
end
end K43

namespace K43
open PySem DL
section
variable {cs : List Int} {st : Store}
def cntB : D → Bool
  | .int i => decide (0 ≤ i)
  | _ => false
theorem count_ok {x y : D} (h : root st x = some y) : Qis_count [x] st = .ok (.bl (cntB y)) st := by
  rw [is_count_ok h]
  cases y <;> rfl
/-- the door where the calendar is none -/
theorem door_cal {v x y : D} {w : Int} (hw : w = 0 ∨ w = 1 ∨ w = 2) (b : Bool) (h : Askd st v) (hc : calB v = false) : Q_law_door [.int w, v, x, y, .bl b] st = .ok (.lst [.str "calendar", v, .bl true]) st := by
  have e := check_no h hc
  have e0 : Qworked [v, x, y] st = .exc "InvalidCalendars" v st := by unfold Qworked; rw [runD_eq]; simp [B_worked, e]
  have e1 : Qdone [v, x, y] st = .exc "InvalidCalendars" v st := by unfold Qdone; rw [runD_eq]; simp [B_done, e]
  have e2 : Qbegun [v, x, y] st = .exc "InvalidCalendars" v st := by unfold Qbegun; rw [runD_eq]; simp [B_begun, e]
  unfold Q_law_door
  rw [runD_eq]
  rcases hw with rfl | rfl | rfl <;> cases b <;> simp [B__law_door, sTry, e0, e1, e2, pmut, pickC, subX, unS, eXf, eXis, fld_given]
def wordA (w : Int) : String := if w = 2 then "end" else "start"
def wordB (w : Int) : String := if w = 0 then "end" else "duration"
theorem door_first {v x y dx : D} {w : Int} (hw : w = 0 ∨ w = 1 ∨ w = 2) (b : Bool) (h : Askd st v) (hc : calB v = true) (hx : root st x = some dx) (hb : cntB dx = false) :
    Q_law_door [.int w, v, x, y, .bl b] st = .ok (.lst [.str (wordA w), x, .bl true]) st := by
  have e := check_ok h hc
  have c := count_ok hx
  rw [hb] at c
  have e0 : Qworked [v, x, y] st = .exc "InvalidStart" x st := by unfold Qworked; rw [runD_eq]; simp [B_worked, e, c]
  have e1 : Qdone [v, x, y] st = .exc "InvalidStart" x st := by unfold Qdone; rw [runD_eq]; simp [B_done, e, c]
  have e2 : Qbegun [v, x, y] st = .exc "InvalidEnd" x st := by unfold Qbegun; rw [runD_eq]; simp [B_begun, e, c]
  unfold Q_law_door
  rw [runD_eq]
  rcases hw with rfl | rfl | rfl <;> cases b <;> simp [B__law_door, sTry, e0, e1, e2, pmut, pickC, subX, unS, eXf, eXis, fld_given, wordA]
theorem door_last {v x y dx dy : D} {w : Int} (hw : w = 0 ∨ w = 1 ∨ w = 2) (b : Bool) (h : Askd st v) (hc : calB v = true) (hx : root st x = some dx) (hb : cntB dx = true) (hy : root st y = some dy) (hb2 : cntB dy = false) :
    Q_law_door [.int w, v, x, y, .bl b] st = .ok (.lst [.str (wordB w), y, .bl true]) st := by
  have e := check_ok h hc
  have c := count_ok hx
  have c2 := count_ok hy
  rw [hb] at c
  rw [hb2] at c2
  have e0 : Qworked [v, x, y] st = .exc "InvalidEnd" y st := by unfold Qworked; rw [runD_eq]; simp [B_worked, e, c, c2]
  have e1 : Qdone [v, x, y] st = .exc "InvalidDuration" y st := by unfold Qdone; rw [runD_eq]; simp [B_done, e, c, c2]
  have e2 : Qbegun [v, x, y] st = .exc "InvalidDuration" y st := by unfold Qbegun; rw [runD_eq]; simp [B_begun, e, c, c2]
  unfold Q_law_door
  rw [runD_eq]
  rcases hw with rfl | rfl | rfl <;> cases b <;> simp [B__law_door, sTry, e0, e1, e2, pmut, pickC, subX, unS, eXf, eXis, fld_given, wordB]
end
end K43

/-! small values; a calendar with one thing changed -/
namespace K43
open PySem DL
def flB : D → Bool
  | .non => true
  | .bl _ => true
  | .int i => decide (i.natAbs < 10 ^ 40)
  | .str x => decide ((reprText x).length ≤ 60) && x.cps.all (· < 0x110000)
  | _ => false
def f1B : D → Bool
  | .tup xs => decide (xs.length ≤ 70) && xs.all flB
  | .lst xs => decide (xs.length ≤ 70) && xs.all flB
  | d => flB d
def f2B : D → Bool
  | .tup xs => decide (xs.length ≤ 70) && xs.all f1B
  | d => f1B d
section
variable {st : Store} {d : D} {xs : List D}
theorem f1_of (h : flB d = true) : f1B d = true := by
  cases d <;> first | exact h | (simp [flB] at h)
theorem f2_of (h : f1B d = true) : f2B d = true := by
  cases d with
  | tup xs =>
    simp only [f1B, Bool.and_eq_true, List.all_eq_true] at h
    simp only [f2B, Bool.and_eq_true, List.all_eq_true]
    exact ⟨h.1, fun x hx => f1_of (h.2 x hx)⟩
  | _ => exact h
theorem fl_shw (h : flB d = true) : Shw st 1 60 d := by
  cases d with
  | non => exact shw_non.mono (by decide) (by decide)
  | bl b => exact shw_bl.mono (by decide) (by decide)
  | int i =>
    simp only [flB, decide_eq_true_eq] at h
    exact (shw_int 40 (by decide) (by decide) h).mono (by decide) (by decide)
  | str x =>
    simp only [flB, Bool.and_eq_true, decide_eq_true_eq] at h
    exact shw_str h.1
  | _ => simp [flB] at h
theorem f1_shw (h : f1B d = true) : Shw st 2 4400 d := by
  have seq : ∀ {xs : List D}, (decide (xs.length ≤ 70) && xs.all flB) = true → xs.length ≤ 70 ∧ ∀ x ∈ xs, Shw st 1 60 x := by
    intro xs h
    simp only [Bool.and_eq_true, List.all_eq_true, decide_eq_true_eq] at h
    exact ⟨h.1, fun x hx => fl_shw (h.2 x hx)⟩
  cases d with
  | tup xs => exact shw_tup (seq h).2 4400 (by have := (seq h).1; omega)
  | lst xs => exact shw_lst (seq h).2 4400 (by have := (seq h).1; omega)
  | _ => refine (fl_shw ?_).mono (by decide) (by decide); exact h
theorem f2_shw (h : f2B d = true) : Shw st 3 400000 d := by
  cases d with
  | tup xs =>
    simp only [f2B, Bool.and_eq_true, List.all_eq_true, decide_eq_true_eq] at h
    exact shw_tup (fun x hx => f1_shw (h.2 x hx)) 400000 (by have := h.1; omega)
  | _ => refine (f1_shw ?_).mono (by decide) (by decide); exact h
theorem fl_ok (h : flB d = true) : okD d = true ∧ depD d = 0 ∧ flatD d = true := by
  cases d <;> simp_all [flB, okD, depD, flatD]
theorem f1_ok (h : f1B d = true) : okD d = true ∧ depD d ≤ 1 := by
  have seq : ∀ {xs : List D}, (decide (xs.length ≤ 70) && xs.all flB) = true → okDs xs = true ∧ depDs xs ≤ 0 := by
    intro xs h
    simp only [Bool.and_eq_true, List.all_eq_true, decide_eq_true_eq] at h
    exact ⟨okDs_mem.mpr fun x hx => (fl_ok (h.2 x hx)).1, depDs_le.mpr fun x hx => Nat.le_of_eq (fl_ok (h.2 x hx)).2.1⟩
  cases d with
  | tup xs => exact ⟨by rw [okD]; exact (seq h).1, by rw [depD]; have := (seq h).2; omega⟩
  | lst xs => exact ⟨by rw [okD]; exact (seq h).1, by rw [depD]; have := (seq h).2; omega⟩
  | _ => first | (simp [f1B, flB] at h; done) | (simp_all [f1B, flB, okD, depD])
theorem f2_items (h : f2B (.tup xs) = true) : okDs xs = true ∧ depDs xs ≤ 50 := by
  simp only [f2B, Bool.and_eq_true, List.all_eq_true, decide_eq_true_eq] at h
  exact ⟨okDs_mem.mpr fun x hx => (f1_ok (h.2 x hx)).1, depDs_le.mpr fun x hx => by have := (f1_ok (h.2 x hx)).2; omega⟩
theorem f1_root (h : f1B d = true) : root st d = some d := by
  cases d <;> first | simp | simp [f1B, flB] at h
theorem f2_root (h : f2B d = true) : root st d = some d := by
  cases d <;> first | simp | simp [f2B, f1B, flB] at h
theorem f2_askd (h : f2B d = true) : Askd st d := by
  refine ⟨d, f2_root h, fun xs e x hx => ?_⟩
  subst e
  simp only [f2B, Bool.and_eq_true, List.all_eq_true, decide_eq_true_eq] at h
  exact ⟨x, f1_root (h.2 x hx)⟩
theorem f2_ints (hl : xs.length ≤ 70) (h : ∀ x ∈ xs, bitB x = true) : f2B (.tup xs) = true := by
  simp only [f2B, Bool.and_eq_true, List.all_eq_true, decide_eq_true_eq]
  refine ⟨hl, fun x hx => f1_of ?_⟩
  have := h x hx
  cases x with
  | int i =>
    simp only [bitB, Bool.or_eq_true, beq_iff_eq] at this
    rcases this with rfl | rfl <;> decide
  | _ => simp [bitB] at this
theorem mul_tup {x : D} {k : Int} (h0 : 0 ≤ k) (h1 : k ≤ 1000) : mulD (.tup [x]) (.int k) = some (.tup (List.replicate k.toNat x)) := by
  simp only [mulD]
  rw [if_pos ⟨by simp, h0, h1, by simp⟩]
  congr 2
  induction k.toNat with
  | zero => rfl
  | succ n ih => rw [List.replicate_succ, List.flatten_cons, ih, List.replicate_succ]; rfl
theorem add_tup {xs ys : List D} (h : xs.length + ys.length ≤ 16777216) : addD (.tup xs) (.tup ys) = some (.tup (xs ++ ys)) := by
  show lenOk _ _ = _
  unfold lenOk
  rw [if_pos (show xs.length + ys.length ≤ szL from h)]
theorem cal_bit {cs : List Int} (C : Cal cs) : ∀ x ∈ cs.map D.int, bitB x = true := by
  intro x hx
  obtain ⟨c, hc, rfl⟩ := List.mem_map.mp hx
  rcases C.bit c hc with rfl | rfl <;> rfl
theorem bit_f1 {x : D} (h : bitB x = true) : f1B x = true := by
  have := f2_ints (xs := [x]) (by simp) (by simpa using h)
  simpa [f2B] using this
theorem bad_calendar_ok {cs : List Int} (C : Cal cs) {n B : Nat} (bx : BoxAt st n B) (hB : B < 900000) : ∃ v st', Q_law_bad_calendar [.ref n, calD cs] st = .ok v st' ∧ f2B v = true ∧ BoxAt st' n (B + 2) ∧ Kept st st' n := by
  have hp := C.pos
  have hf := C.few
  obtain ⟨r1, s1, e1, g1, l1, b1, k1⟩ := take_k bx (by omega) (cs.length : Int) (by omega) (by omega)
  obtain ⟨r2, s2, e2, g2, l2, b2, k2⟩ := take_k b1 (by omega) 16 (by decide) (by decide)
  have p1 : powD (.int 10) (.int 30) = some (.int (10 ^ 30)) := pow_ok (k := 30) (by decide) (by decide +kernel)
  have n1 : negD (.int 1) = some (.int (-1)) := rfl
  unfold Q_law_bad_calendar
  rw [runD_eq]
  by_cases w : r2 < 9
  · obtain ⟨v, ev, hv⟩ : ∃ v, atD [D.int 2, .int (-1), .bl true, .non, .str "1", .tup [.int 1], .lst [.int 1], .bl false, .int (10 ^ 30)] r2 = some v ∧ f1B v = true := by
      obtain ⟨d, h1, h2⟩ := list_at (xs := [D.int 2, .int (-1), .bl true, .non, .str "1", .tup [.int 1], .lst [.int 1], .bl false, .int (10 ^ 30)]) g2 (by simp; omega)
      refine ⟨d, h1, ?_⟩
      have : [D.int 2, .int (-1), .bl true, .non, .str "1", .tup [.int 1], .lst [.int 1], .bl false, .int (10 ^ 30)].all f1B = true := by decide +kernel
      exact List.all_eq_true.mp this d h2
    have c1 : decide (r2 < 9) = true := decide_eq_true w
    generalize (10 : Int) ^ 30 = big at *
    have a1 : (cutD (cs.map D.int) none (some r1)).length ≤ 31 := by unfold cutD; simp; omega
    have a2 : (cutD (cs.map D.int) (some (r1 + 1)) none).length ≤ 31 := by unfold cutD; simp; omega
    have m1 : ∀ x ∈ cutD (cs.map D.int) none (some r1), bitB x = true := fun x hx => cal_bit C x (List.mem_of_mem_drop (List.mem_of_mem_take hx))
    have m2 : ∀ x ∈ cutD (cs.map D.int) (some (r1 + 1)) none, bitB x = true := fun x hx => cal_bit C x (List.mem_of_mem_drop (List.mem_of_mem_take hx))
    have q1 : sliceD (calD cs) none (some r1) = some (.tup (cutD (cs.map D.int) none (some r1))) := rfl
    have q2 : sliceD (calD cs) (some (r1 + 1)) none = some (.tup (cutD (cs.map D.int) (some (r1 + 1)) none)) := rfl
    have lc : lenB [calD cs] = some (.int cs.length) := by simp [calD]
    have rc : ∀ s : Store, root s (calD cs) = some (calD cs) := fun s => by simp [calD]
    generalize cutD (cs.map D.int) none (some r1) = x1 at *
    generalize cutD (cs.map D.int) (some (r1 + 1)) none = x2 at *
    have u1 := add_tup (xs := x1) (ys := [v]) (by simp; omega)
    have u2 := add_tup (xs := x1 ++ [v]) (ys := x2) (by simp; omega)
    refine ⟨.tup (x1 ++ [v] ++ x2), s2, ?_, ?_, b2, k1.trans k2⟩
    · simp [B__law_bad_calendar, rc, lc, e1, e2, p1, n1, c1, itemD_lst, ev, q1, q2, u1]
      simp [u2]
    · simp only [f2B, Bool.and_eq_true, List.all_eq_true, decide_eq_true_eq]
      refine ⟨by simp; omega, fun x hx => ?_⟩
      simp only [List.append_assoc, List.mem_append, List.mem_singleton] at hx
      rcases hx with h | rfl | h
      · exact bit_f1 (m1 x h)
      · exact hv
      · exact bit_f1 (m2 x h)
  · have c1 : decide (r2 < 9) = false := decide_eq_false w
    have lc : lenB [calD cs] = some (.int cs.length) := by simp [calD]
    have rc : ∀ s : Store, root s (calD cs) = some (calD cs) := fun s => by simp [calD]
    have lb : listB [calD cs] = some (cs.map D.int) := rfl
    have t0 := mul_tup (x := .int 0) (k := (cs.length : Int)) (by omega) (by omega)
    have t1 := mul_tup (x := .int 1) (k := 32 - (cs.length : Int)) (by omega) (by omega)
    have t2 := mul_tup (x := .int 0) (k := 31 - (cs.length : Int)) (by omega) (by omega)
    have u1 : addD (calD cs) (.tup (List.replicate (32 - (cs.length : Int)).toNat (.int 1))) = some (.tup (cs.map D.int ++ List.replicate (32 - (cs.length : Int)).toNat (.int 1))) := add_tup (by simp; omega)
    have u2 : addD (calD cs) (.tup (List.replicate (31 - (cs.length : Int)).toNat (.int 0))) = some (.tup (cs.map D.int ++ List.replicate (31 - (cs.length : Int)).toNat (.int 0))) := add_tup (by simp; omega)
    obtain ⟨v, ev, hv⟩ : ∃ v, atD [D.lst (cs.map D.int), .tup [], .tup (List.replicate (cs.length : Int).toNat (.int 0)), .tup (cs.map D.int ++ List.replicate (32 - (cs.length : Int)).toNat (.int 1)), .tup (cs.map D.int ++ List.replicate (31 - (cs.length : Int)).toNat (.int 0)), .non, .str "11"] (r2 - 9) = some v ∧ f2B v = true := by
      obtain ⟨d, h1, h2⟩ := list_at (xs := [D.lst (cs.map D.int), .tup [], .tup (List.replicate (cs.length : Int).toNat (.int 0)), .tup (cs.map D.int ++ List.replicate (32 - (cs.length : Int)).toNat (.int 1)), .tup (cs.map D.int ++ List.replicate (31 - (cs.length : Int)).toNat (.int 0)), .non, .str "11"]) (i := r2 - 9) (by omega) (by simp; omega)
      refine ⟨d, h1, ?_⟩
      have rep : ∀ (k : Nat) (x y : D), bitB y = true → x ∈ List.replicate k y → bitB x = true := fun k x y hy hx => by rw [(List.mem_replicate.mp hx).2]; exact hy
      simp only [List.mem_cons, List.not_mem_nil, or_false] at h2
      rcases h2 with rfl | rfl | rfl | rfl | rfl | rfl | rfl
      · have := f2_ints (xs := cs.map D.int) (by simp; omega) (cal_bit C)
        simp only [f2B, f1B, Bool.and_eq_true, List.all_eq_true, decide_eq_true_eq] at this ⊢
        refine ⟨this.1, fun x hx => ?_⟩
        have h := cal_bit C x hx
        obtain ⟨c, hc, rfl⟩ := List.mem_map.mp hx
        rcases C.bit c hc with rfl | rfl <;> decide
      · decide
      · exact f2_ints (by simp; omega) fun x hx => rep _ x _ rfl hx
      · refine f2_ints (by simp; omega) fun x hx => ?_
        rcases List.mem_append.mp hx with h | h
        · exact cal_bit C x h
        · exact rep _ x _ rfl h
      · refine f2_ints (by simp; omega) fun x hx => ?_
        rcases List.mem_append.mp hx with h | h
        · exact cal_bit C x h
        · exact rep _ x _ rfl h
      · decide
      · decide +kernel
    refine ⟨v, s2, ?_, hv, b2, k1.trans k2⟩
    have i9 : itemD (.lst [D.lst (cs.map D.int), .tup [], .tup (List.replicate (cs.length : Int).toNat (.int 0)), .tup (cs.map D.int ++ List.replicate (32 - (cs.length : Int)).toNat (.int 1)), .tup (cs.map D.int ++ List.replicate (31 - (cs.length : Int)).toNat (.int 0)), .non, .str "11"]) (.int (r2 - 9)) = some v := ev
    generalize List.replicate (cs.length : Int).toNat (D.int 0) = y0 at *
    generalize List.replicate (32 - (cs.length : Int)).toNat (D.int 1) = y1 at *
    generalize List.replicate (31 - (cs.length : Int)).toNat (D.int 0) = y2 at *
    simp [B__law_bad_calendar, rc, lc, e1, e2, p1, n1, c1, lCall, lb, t0, t1, t2, u1, u2]
    simp [i9]
end
end K43

/-! tests_right -/
namespace K43
open PySem DL
structure Good (v : D) : Prop where
  txt : ∀ st, ∃ t, textD st v = some t
  ask : ∀ st, Askd st v
  ok : ∀ xs, v = .tup xs → okDs xs = true ∧ depDs xs ≤ 50
theorem f2_good {v : D} (h : f2B v = true) : Good v := ⟨fun st => (f2_shw h).text, fun st => f2_askd h, fun xs e => by subst e; exact f2_items h⟩
theorem dic_good : Good (.dic [.inl 0] [.int 1]) := by
  refine ⟨fun st => ⟨(PyData.dict [(.int 0, .int 1)]).shown, ?_⟩, fun st => ⟨_, by rw [root_dic], fun xs e => by cases e⟩, fun xs e => by cases e⟩
  have e : deepD st deepN (.dic [.inl 0] [.int 1]) = some (.dict [(.int 0, .int 1)]) := rfl
  unfold textD
  rw [e, Option.bind_some]
  have : shownD (.dict [(.int 0, .int 1)]) = some (PyData.dict [(.int 0, .int 1)]).shown := by
    unfold shownD
    rw [if_pos (by decide +kernel)]
  exact this
section
variable {cs : List Int} {st : Store}
abbrev tBody : SF := (sSeq (sPar [5, 6] (aCons (eRepr (eVar 4)) (aCons (eCall Q_law_is_calendar (aCons (eVar 4) aNil)) aNil)))
    (sSeq (sIf (DL.tOr (tNot (tTru (eCall Q_law_same (aCons (eLst (lDisp (aCons (eCall Qis_calendar (aCons (eVar 4) aNil)) (aCons (eCallK Qis_calendar [0] aNil (aCons (eVar 4) aNil)) aNil)))) (aCons (eLst (lDisp (aCons (eVar 6) (aCons (eVar 6) aNil)))) aNil))))) (tVal (eOp neD (eRepr (eVar 4)) (eVar 5)))) (sSeq (sRet (eC (.bl false)))
    sNil) sNil)
    sNil))
theorem same_bb (b : Bool) : Q_law_same [.lst [.bl b, .bl b], .lst [.bl b, .bl b]] st = .ok (.bl true) st := same_two 2 (same_bl 2 b) (same_bl 2 b)
theorem t_turn {v : D} (g : Good v) (x0 x1 x2 x3 x5 x6 x7 : Option Sl) : ∃ y5 y6, tBody [x0, x1, x2, x3, some (.sh v), x5, x6, x7] st = .next [x0, x1, x2, x3, some (.sh v), y5, y6, x7] st := by
  obtain ⟨t, e⟩ := g.txt st
  have c1 := law_is_calendar_ok (g.ask st) g.ok
  have c2 := is_calendar_ok (g.ask st)
  refine ⟨some (.sh (.str t)), some (.sh (.bl (calB v))), ?_⟩
  simp [tBody, e, c1, c2, pmut, same_bb]
theorem tests_ok (C : Cal cs) {n B : Nat} (bx : BoxAt st n B) (hB : B < 800000) : ∃ st', Q_law_tests_right [.ref n, calD cs] st = .ok (.bl true) st' ∧ BoxAt st' n (B + 12) ∧ Kept st st' n := by
  have hp := C.pos
  have hf := C.few
  have e6 : ∀ s' : Store, rngK [.int 6] s' = .ok (rngD 0 6) s' := fun s' => rngK1 (by decide) (by decide)
  have rc : ∀ s : Store, root s (calD cs) = some (calD cs) := fun s => by simp [calD]
  have lc : lenB [calD cs] = some (.int cs.length) := by simp [calD]
  have hcal : f2B (calD cs) = true := f2_ints (by simp; omega) (cal_bit C)
  obtain ⟨w30, h30⟩ : ∃ w, w = List.replicate 30 (D.int 0) := ⟨_, rfl⟩
  obtain ⟨w31, h31⟩ : ∃ w, w = List.replicate 31 (D.int 0) := ⟨_, rfl⟩
  obtain ⟨w32, h32⟩ : ∃ w, w = List.replicate 32 (D.int 1) := ⟨_, rfl⟩
  obtain ⟨v30, k30⟩ : ∃ w, w = w30 ++ [D.int 1] := ⟨_, rfl⟩
  obtain ⟨vp, hvp⟩ : ∃ w, w = List.replicate (32 - (cs.length : Int)).toNat (D.int 0) := ⟨_, rfl⟩
  have z30 : mulD (.tup [.int 0]) (.int 30) = some (.tup w30) := by rw [h30]; exact mul_tup (by decide) (by decide)
  have z31 : mulD (.tup [.int 0]) (.int 31) = some (.tup w31) := by rw [h31]; exact mul_tup (by decide) (by decide)
  have z32 : mulD (.tup [.int 1]) (.int 32) = some (.tup w32) := by rw [h32]; exact mul_tup (by decide) (by decide)
  have a30 : addD (.tup w30) (.tup [.int 1]) = some (.tup v30) := by rw [k30]; exact add_tup (by rw [h30]; decide)
  have zp : mulD (.tup [.int 0]) (.int (32 - (cs.length : Int))) = some (.tup vp) := by rw [hvp]; exact mul_tup (by omega) (by omega)
  have ap : addD (.tup vp) (calD cs) = some (.tup (vp ++ cs.map D.int)) := add_tup (by rw [hvp]; simp; omega)
  have rv : revA (calD cs) = some (.tup (cs.map D.int).reverse) := rfl
  have m2 : mulD (calD cs) (.int 2) = some (.tup (cs.map D.int ++ cs.map D.int)) := by
    have hne : cs ≠ [] := by intro e; subst e; simp at hp
    simp only [calD, mulD]
    rw [if_pos ⟨by simp; omega, by decide, by decide, by simpa using hne⟩]
    simp [List.replicate]
  -- the changed calendars
  have comp : ∀ x2 x3 : Option Sl, ∃ xs s5, compL (.n 7) tYesF (eCall Q_law_bad_calendar (aCons (eVar 0) (aCons (eVar 1) aNil))) [some (.sh (.ref n)), some (.sh (calD cs)), x2, x3, none, none, none, none] (rngD 0 6) st = .ok xs s5 ∧ xs.length = 6 ∧ (∀ v ∈ xs, f2B v = true) ∧ BoxAt s5 n (B + 12) ∧ Kept st s5 n := by
    intro x2 x3
    obtain ⟨xs, s5, h1, h2⟩ := comp_st (p := .n 7) (e := eCall Q_law_bad_calendar (aCons (eVar 0) (aCons (eVar 1) aNil))) (ρ := [some (.sh (.ref n)), some (.sh (calD cs)), x2, x3, none, none, none, none])
      (fun k acc st' => acc.length = k ∧ (∀ v ∈ acc, f2B v = true) ∧ BoxAt st' n (B + 2 * k) ∧ Kept st st' n) (rngD 0 6) 0 [] st ⟨rfl, by simp, bx, Kept.refl _ _⟩ (by
        rintro j d acc st' hd ⟨hl, hc, hb, hk⟩
        have hj : j < (rngD 0 6).length := (List.getElem?_eq_some_iff.mp hd).1
        rw [rngD_len] at hj
        obtain ⟨v, s', e, h1, h2, h3⟩ := bad_calendar_ok C hb (by omega)
        refine ⟨_, v, s', pmat_n, by simp [e], by simp [hl], fun x hx => ?_, h2.mono (by omega), hk.trans h3⟩
        rcases List.mem_append.mp hx with h | h
        · exact hc x h
        · rw [List.mem_singleton] at h; rw [h]; exact h1)
    rw [rngD_len] at h2
    exact ⟨xs, s5, h1, by simpa using h2.1, by simpa using h2.2.1, h2.2.2.1, h2.2.2.2⟩
  let L0 : List D := [calD cs, .tup [.int 1], .tup [.int 0], .tup v30, .tup w31, .tup w32, .tup [.bl true], .tup [], .lst [.int 1], .non, .int 1, .str "1", .dic [.inl 0] [.int 1], .tup [.tup [.int 1]], .tup [.int 0, .int 2]]
  have hL0 : ∀ v ∈ L0, Good v := by
    intro v hv
    simp only [L0, List.mem_cons, List.not_mem_nil, or_false] at hv
    rcases hv with rfl | rfl | rfl | rfl | rfl | rfl | rfl | rfl | rfl | rfl | rfl | rfl | rfl | rfl | rfl
    · exact f2_good hcal
    · exact f2_good (by decide +kernel)
    · exact f2_good (by decide +kernel)
    · rw [k30, h30]; exact f2_good (by decide +kernel)
    · rw [h31]; exact f2_good (by decide +kernel)
    · rw [h32]; exact f2_good (by decide +kernel)
    · exact f2_good (by decide +kernel)
    · exact f2_good (by decide +kernel)
    · exact f2_good (by decide +kernel)
    · exact f2_good (by decide +kernel)
    · exact f2_good (by decide +kernel)
    · exact f2_good (by decide +kernel)
    · exact dic_good
    · exact f2_good (by decide +kernel)
    · exact f2_good (by decide +kernel)
  let L2 : List D := [.tup (cs.map D.int).reverse, .tup (cs.map D.int ++ cs.map D.int), .tup (vp ++ cs.map D.int)]
  have hL2 : ∀ v ∈ L2, Good v := by
    intro v hv
    simp only [L2, List.mem_cons, List.not_mem_nil, or_false] at hv
    rcases hv with rfl | rfl | rfl
    · exact f2_good (f2_ints (by simp; omega) fun x hx => cal_bit C x (List.mem_reverse.mp hx))
    · exact f2_good (f2_ints (by simp; omega) fun x hx => cal_bit C x ((List.mem_append.mp hx).elim id id))
    · refine f2_good (f2_ints (by rw [hvp]; simp; omega) fun x hx => ?_)
      rcases List.mem_append.mp hx with h | h
      · rw [hvp] at h; rw [(List.mem_replicate.mp h).2]; rfl
      · exact cal_bit C x h
  obtain ⟨xs, s5, hc, hxl, hxs, hb, hk⟩ := comp (some (.sh (.int cs.length))) (some (.sh (.lst L0)))
  have q1 : addD (.lst L0) (.lst xs) = some (.lst (L0 ++ xs)) := add_lst (by rw [hxl]; simp [L0])
  have q2 : addD (.lst (L0 ++ xs)) (.lst L2) = some (.lst (L0 ++ xs ++ L2)) := add_lst (by simp [L0, L2, hxl])
  have hall : ∀ v ∈ L0 ++ xs ++ L2, Good v := by
    intro v hv
    simp only [List.append_assoc, List.mem_append] at hv
    rcases hv with h | h | h
    · exact hL0 v h
    · exact f2_good (hxs v h)
    · exact hL2 v h
  obtain ⟨ρ2, st2, hf, rfl, y4, y5, y6, y7, rfl⟩ := for_inv (p := .n 4) (body := tBody)
    (fun k ρ st' => st' = s5 ∧ ∃ y4 y5 y6 y7, ρ = [some (.sh (.ref n)), some (.sh (calD cs)), some (.sh (.int cs.length)), some (.sh (.lst L0)), y4, y5, y6, y7]) (L0 ++ xs ++ L2) 0 _ s5 ⟨rfl, none, none, none, none, rfl⟩ (by
      rintro j d ρ st' hd ⟨rfl, y4, y5, y6, y7, rfl⟩
      obtain ⟨z5, z6, e⟩ := t_turn (st := st') (hall d (List.mem_of_getElem? hd)) (some (.sh (.ref n))) (some (.sh (calD cs))) (some (.sh (.int cs.length))) (some (.sh (.lst L0))) y5 y6 y7
      exact ⟨_, _, _, pmat_n, e, rfl, _, _, _, _, rfl⟩)
  refine ⟨st2, ?_, hb, hk⟩
  unfold Q_law_tests_right
  rw [runD_eq]
  have hl6 : lenK (rngD 0 6) = id := by funext o; exact lenK_ok (by rw [rngD_len]; decide)
  have start : ∀ (k : SF), (sSeq (sSet 3 (eLst (lDisp (aCons (eVar 1) (aCons (eTup (aCons (eC (.int 1)) aNil)) (aCons (eTup (aCons (eC (.int 0)) aNil)) (aCons (eOp addD (eOp mulD (eTup (aCons (eC (.int 0)) aNil)) (eC (.int 30))) (eTup (aCons (eC (.int 1)) aNil))) (aCons (eOp mulD (eTup (aCons (eC (.int 0)) aNil)) (eC (.int 31))) (aCons (eOp mulD (eTup (aCons (eC (.int 1)) aNil)) (eC (.int 32))) (aCons (eTup (aCons (eC (.bl true)) aNil)) (aCons (eTup aNil) (aCons (eLst (lDisp (aCons (eC (.int 1)) aNil))) (aCons (eC .non) (aCons (eC (.int 1)) (aCons (eC (.str "1")) (aCons (eDic1 (.inl 0) (eC (.int 1))) (aCons (eTup (aCons (eTup (aCons (eC (.int 1)) aNil)) aNil)) (aCons (eTup (aCons (eC (.int 0)) (aCons (eC (.int 2)) aNil))) aNil)))))))))))))))))) k) [some (.sh (.ref n)), some (.sh (calD cs)), some (.sh (.int cs.length)), none, none, none, none, none] st = k [some (.sh (.ref n)), some (.sh (calD cs)), some (.sh (.int cs.length)), some (.sh (.lst L0)), none, none, none, none] st := by
    intro k
    simp [z30, z31, z32, a30, L0]
  have q3 : addD (.lst (L0 ++ xs)) (.lst [.tup (cs.map D.int).reverse, .tup (cs.map D.int ++ cs.map D.int), .tup (vp ++ cs.map D.int)]) = some (.lst (L0 ++ xs ++ L2)) := q2
  clear_value L0 L2
  show (sSeq (sSet 2 (eB lenB (hCons (eVar 1) hNil))) _ _ _).run = _
  rw [sSeq_eq]
  rw [show sSet 2 (eB lenB (hCons (eVar 1) hNil)) ([D.ref n, calD cs].map (fun d => some (Sl.sh d)) ++ List.replicate (8 - [D.ref n, calD cs].length) none) st = .next [some (.sh (.ref n)), some (.sh (calD cs)), some (.sh (.int cs.length)), none, none, none, none, none] st from by simp [rc, lc]]
  rw [seq_next, start]
  simp only [List.append_assoc] at q3 hf
  simp [e6, lComp_eq, hl6, hc, q1, rc, rv, m2, zp, ap, q3, hf, -List.map_reverse]
end
end K43

/-! copies, and how they grow -/
namespace K43
open PySem DL
/-- the lists of copies -/
structure Sto (st : Store) (L K : Nat) : Prop where
  le : L ≤ st.length
  all : ∀ a ys, L ≤ a → st[a]? = some ys → ys.length ≤ K ∧ ∀ y ∈ ys, flB y = true
def c1 (st : Store) (L : Nat) (d : D) : Prop := flB d = true ∨ (∃ a, d = .ref a ∧ L ≤ a ∧ a < st.length) ∨ (∃ xs, d = .tup xs ∧ xs.length ≤ 70 ∧ ∀ x ∈ xs, flB x = true)
def c2 (st : Store) (L : Nat) (d : D) : Prop := c1 st L d ∨ ∃ xs, d = .tup xs ∧ xs.length ≤ 70 ∧ ∀ x ∈ xs, c1 st L x
theorem c1.mono {st st' : Store} {L : Nat} {d : D} (h : c1 st L d) (hl : st.length ≤ st'.length) : c1 st' L d := by
  rcases h with h | ⟨a, h1, h2, h3⟩ | h
  · exact .inl h
  · exact .inr (.inl ⟨a, h1, h2, by omega⟩)
  · exact .inr (.inr h)
theorem c2.mono {st st' : Store} {L : Nat} {d : D} (h : c2 st L d) (hl : st.length ≤ st'.length) : c2 st' L d := by
  rcases h with h | ⟨xs, h1, h2, h3⟩
  · exact .inl (h.mono hl)
  · exact .inr ⟨xs, h1, h2, fun x hx => (h3 x hx).mono hl⟩
theorem Sto.add {st : Store} {L K : Nat} (s : Sto st L K) {xs : List D} (h1 : xs.length ≤ K) (h2 : ∀ x ∈ xs, flB x = true) : Sto (st ++ [xs]) L K := by
  refine ⟨by have := s.le; simp; omega, fun a ys ha e => ?_⟩
  by_cases hl : a < st.length
  · rw [List.getElem?_append_left hl] at e
    exact s.all a ys ha e
  · rw [List.getElem?_append_right (by omega)] at e
    have : a - st.length = 0 := by
      have := (List.getElem?_eq_some_iff.mp e).1
      simp at this
      omega
    rw [this] at e
    cases e
    exact ⟨h1, h2⟩
theorem Sto.up {st : Store} {L K K' : Nat} (s : Sto st L K) (h : K ≤ K') : Sto st L K' := ⟨s.le, fun a ys ha e => ⟨Nat.le_trans (s.all a ys ha e).1 h, (s.all a ys ha e).2⟩⟩
theorem fl_root {st : Store} {d : D} (h : flB d = true) : root st d = some d := f1_root (f1_of h)
section
variable {st : Store} {L K : Nat} {d : D}
theorem c1_shw (s : Sto st L K) (hK : K ≤ 200) (h : c1 st L d) : Shw st 2 13000 d := by
  rcases h with h | ⟨a, rfl, h1, h2⟩ | ⟨xs, rfl, h1, h2⟩
  · exact (fl_shw h).mono (by decide) (by decide)
  · have e : st[a]? = some st[a] := List.getElem?_eq_getElem h2
    have := s.all a _ h1 e
    exact shw_ref e (fun x hx => fl_shw (this.2 x hx)) 13000 (by have := this.1; omega)
  · exact shw_tup (fun x hx => fl_shw (h2 x hx)) 13000 (by omega)
theorem c2_shw (s : Sto st L K) (hK : K ≤ 200) (h : c2 st L d) : Shw st 3 1000000 d := by
  rcases h with h | ⟨xs, rfl, h1, h2⟩
  · exact (c1_shw s hK h).mono (by decide) (by decide)
  · exact shw_tup (fun x hx => c1_shw s hK (h2 x hx)) 1000000 (by omega)
theorem c1_root (h : c1 st L d) : ∃ r, root st d = some r ∧ ∀ xs, r = .tup xs → ∀ x ∈ xs, ∃ y, root st x = some y := by
  rcases h with h | ⟨a, rfl, h1, h2⟩ | ⟨xs, rfl, h1, h2⟩
  · refine ⟨d, fl_root h, fun xs e => ?_⟩
    subst e
    simp [flB] at h
  · exact ⟨.lst st[a], by rw [root_ref, List.getElem?_eq_getElem h2]; rfl, fun xs e => by cases e⟩
  · exact ⟨_, root_tup, fun ys e x hx => by cases e; exact ⟨x, fl_root (h2 x hx)⟩⟩
theorem c2_askd (h : c2 st L d) : Askd st d := by
  rcases h with h | ⟨xs, rfl, h1, h2⟩
  · exact c1_root h
  · exact ⟨_, root_tup, fun ys e x hx => by cases e; obtain ⟨r, e, _⟩ := c1_root (h2 x hx); exact ⟨r, e⟩⟩
/-- what a copy keeps -/
structure Alike (d d' : D) : Prop where
  bit : bitB d' = bitB d
  one : oneB d' = oneB d
  cnt : cntB d' = cntB d
  cal : calB d' = calB d
theorem Alike.refl (d : D) : Alike d d := ⟨rfl, rfl, rfl, rfl⟩
theorem copy0 (n : Nat) (h : flB d = true) : Q_law_copy_ (n + 1) [d] st = .ok d st := by
  show runD 4 (B__law_copy (Q_law_copy_ n)) [d] st = _
  rw [runD_eq]
  cases d <;> first | (simp [flB] at h; done) | simp [B__law_copy, isD]
theorem copy1 (n : Nat) (s : Sto st L 70) (h : f1B d = true) : ∃ d' more, Q_law_copy_ (n + 2) [d] st = .ok d' (st ++ more) ∧ c1 (st ++ more) L d' ∧ Sto (st ++ more) L 70 ∧ Alike d d' := by
  by_cases hf : flB d = true
  · exact ⟨d, [], by rw [List.append_nil]; exact copy0 (n + 1) hf, .inl hf, by rw [List.append_nil]; exact s, Alike.refl d⟩
  have comp : ∀ (ρ : DL.Env) (xs : List D), ρ.length = 4 → (∀ x ∈ xs, flB x = true) → compL (.n 3) tYesF (eCall (Q_law_copy_ (n + 1)) (aCons (eVar 3) aNil)) ρ xs st = .ok xs st := by
    intro ρ xs hρ hx
    have := comp_all (p := .n 3) (e := eCall (Q_law_copy_ (n + 1)) (aCons (eVar 3) aNil)) (ρ := ρ) (st := st) (ds := xs) id fun x hm => ⟨_, pmat_n, by
      have e := copy0 (st := st) n (hx x hm)
      simp [hρ, e]⟩
    rw [this, List.map_id]
  cases d with
  | tup xs =>
    simp only [f1B, Bool.and_eq_true, List.all_eq_true, decide_eq_true_eq] at h
    refine ⟨.tup xs, [], ?_, .inr (.inr ⟨xs, rfl, h.1, h.2⟩), by rw [List.append_nil]; exact s, Alike.refl _⟩
    show runD 4 (B__law_copy (Q_law_copy_ (n + 1))) _ st = _
    rw [runD_eq, List.append_nil]
    simp [B__law_copy, isD, lComp_eq, lenK_ok (show xs.length ≤ 16777216 by omega), comp [some (.sh (.tup xs)), none, none, none] xs rfl h.2, tupleB]
  | lst xs =>
    simp only [f1B, Bool.and_eq_true, List.all_eq_true, decide_eq_true_eq] at h
    refine ⟨.ref st.length, [xs], ?_, .inr (.inl ⟨_, rfl, s.le, by simp⟩), s.add h.1 h.2, ⟨rfl, rfl, rfl, rfl⟩⟩
    show runD 4 (B__law_copy (Q_law_copy_ (n + 1))) _ st = _
    rw [runD_eq]
    simp [B__law_copy, isD, lComp_eq, lenK_ok (show xs.length ≤ 16777216 by omega), comp [some (.sh (.lst xs)), none, none, none] xs rfl h.2]
  | _ => exact absurd h hf
theorem copy2 (n : Nat) (s : Sto st L 70) (h : f2B d = true) : ∃ d' more, Q_law_copy_ (n + 3) [d] st = .ok d' (st ++ more) ∧ c2 (st ++ more) L d' ∧ Sto (st ++ more) L 70 ∧ Alike d d' := by
  by_cases hf : f1B d = true
  · obtain ⟨d', more, h1, h2, h3, h4⟩ := copy1 (n + 1) s hf
    exact ⟨d', more, h1, .inl h2, h3, h4⟩
  cases d with
  | tup xs =>
    simp only [f2B, Bool.and_eq_true, List.all_eq_true, decide_eq_true_eq] at h
    obtain ⟨ys, st', e, hl, hb, ho, hc, hs, more, rfl⟩ : ∃ ys st', compL (.n 3) tYesF (eCall (Q_law_copy_ (n + 2)) (aCons (eVar 3) aNil)) [some (.sh (.tup xs)), none, none, none] xs st = .ok ys st' ∧ ys.length = xs.length ∧ ys.map bitB = xs.map bitB ∧ ys.map oneB = xs.map oneB ∧ (∀ y ∈ ys, c1 st' L y) ∧ Sto st' L 70 ∧ ∃ more, st' = st ++ more := by
      obtain ⟨ys, st', h1, h2⟩ := comp_st (p := .n 3) (e := eCall (Q_law_copy_ (n + 2)) (aCons (eVar 3) aNil)) (ρ := [some (.sh (.tup xs)), none, none, none])
        (fun k acc st' => acc.length = k ∧ acc.map bitB = (xs.take k).map bitB ∧ acc.map oneB = (xs.take k).map oneB ∧ (∀ y ∈ acc, c1 st' L y) ∧ Sto st' L 70 ∧ ∃ more, st' = st ++ more) xs 0 [] st ⟨rfl, by simp, by simp, by simp, s, [], by simp⟩ (by
          rintro j x acc st' hd ⟨hl, hb, ho, hc, hs, more, rfl⟩
          obtain ⟨y, more2, e, h1, h2, h3⟩ := copy1 (d := x) n hs (h.2 x (List.mem_of_getElem? hd))
          refine ⟨_, y, _, pmat_n, by simp [e], by simp [hl], ?_, ?_, fun z hz => ?_, h2, _, List.append_assoc ..⟩
          · rw [show 0 + j + 1 = j + 1 from by omega, List.take_add_one, hd]
            simp [h3.bit, hb]
          · rw [show 0 + j + 1 = j + 1 from by omega, List.take_add_one, hd]
            simp [h3.one, ho]
          · rcases List.mem_append.mp hz with hz | hz
            · exact (hc z hz).mono (by simp)
            · rw [List.mem_singleton] at hz; rw [hz]; exact h1)
      rw [List.nil_append, Nat.zero_add, List.take_length] at h2
      exact ⟨ys, st', h1, h2⟩
    refine ⟨.tup ys, more, ?_, .inr ⟨ys, rfl, by omega, hc⟩, hs, ⟨rfl, rfl, rfl, ?_⟩⟩
    · show runD 4 (B__law_copy (Q_law_copy_ (n + 2))) _ st = _
      rw [runD_eq]
      simp [B__law_copy, isD, lComp_eq, lenK_ok (show xs.length ≤ 16777216 by omega), e, tupleB]
    · have a1 : ys.all bitB = xs.all bitB := by
        have : (ys.map bitB).all id = (xs.map bitB).all id := by rw [hb]
        simpa [List.all_map] using this
      have a2 : ys.any oneB = xs.any oneB := by
        have : (ys.map oneB).any id = (xs.map oneB).any id := by rw [ho]
        simpa [List.any_map] using this
      simp only [calB, hl, a1, a2]
  | _ => exact absurd h hf
/-- grown -/
structure Low (st st' : Store) (L : Nat) : Prop where
  len : st'.length = st.length
  low : ∀ j, j < L → st'[j]? = st[j]?
theorem grown0 (n : Nat) (h : flB d = true) : ∃ t, Q_law_grown_ (n + 1) [d] st = .ok (.str t) st ∧ textD st d = some t := by
  obtain ⟨t, e⟩ := (fl_shw (st := st) h).text
  refine ⟨t, ?_, e⟩
  show runD 2 (B__law_grown (Q_law_grown_ n)) [d] st = _
  rw [runD_eq]
  cases d <;> first | (simp [flB] at h; done) | simp [B__law_grown, isD, e]
theorem more_fl : flB (.str "more") = true := by decide +kernel
theorem grown1 (n : Nat) (s : Sto st L K) (hK : K < 200) (h : c1 st L d) : ∃ t st', Q_law_grown_ (n + 2) [d] st = .ok (.str t) st' ∧ textD st' d = some t ∧ Sto st' L (K + 1) ∧ Low st st' L := by
  rcases h with h | ⟨a, rfl, h1, h2⟩ | ⟨xs, rfl, h1, h2⟩
  · obtain ⟨t, e1, e2⟩ := grown0 (st := st) (n + 1) h
    exact ⟨t, st, e1, e2, s.up (by omega), rfl, fun _ _ => rfl⟩
  · have e : st[a]? = some st[a] := List.getElem?_eq_getElem h2
    generalize st[a] = ys at e
    have hy := s.all a ys h1 e
    have s' : Sto (st.set a (.str "more" :: ys)) L (K + 1) := by
      refine ⟨by simp [s.le], fun b zs hb hz => ?_⟩
      by_cases hab : a = b
      · subst hab
        rw [List.getElem?_set_self h2] at hz
        cases hz
        refine ⟨by simp; exact hy.1, fun y hm => ?_⟩
        rcases List.mem_cons.mp hm with rfl | hm
        · exact more_fl
        · exact hy.2 y hm
      · rw [List.getElem?_set_ne hab] at hz
        have := s.all b zs hb hz
        exact ⟨by omega, this.2⟩
    obtain ⟨t, et⟩ := (c1_shw s' (by omega) (.inr (.inl ⟨a, rfl, h1, by simpa using h2⟩))).text
    refine ⟨t, _, ?_, et, s', by simp, fun j hj => List.getElem?_set_ne (by omega)⟩
    show runD 2 (B__law_grown (Q_law_grown_ (n + 1))) _ st = _
    rw [runD_eq]
    have q : insD ys [.int 0, .str "more"] = some (.str "more" :: ys, .non) := by
      simp only [insD]
      rw [if_pos ⟨by show ys.length < 16777216; have := hy.1; omega, by decide, by decide⟩]
      rfl
    simp [B__law_grown, root_ref, e, isD, sX, xMut, q, et]
  · obtain ⟨t, et⟩ := (c1_shw s (by omega) (.inr (.inr ⟨xs, rfl, h1, h2⟩))).text
    refine ⟨t, st, ?_, et, s.up (by omega), rfl, fun _ _ => rfl⟩
    show runD 2 (B__law_grown (Q_law_grown_ (n + 1))) _ st = _
    rw [runD_eq]
    obtain ⟨ρ2, st2, hf, rfl, y1, rfl⟩ := for_inv (p := .n 1) (body := (sSeq (sExpr (eCall (Q_law_grown_ (n + 1)) (aCons (eVar 1) aNil))) sNil))
      (fun k ρ st' => st' = st ∧ ∃ y1, ρ = [some (.sh (.tup xs)), y1]) xs 0 _ st ⟨rfl, none, rfl⟩ (by
        rintro j x ρ st' hd ⟨rfl, y1, rfl⟩
        obtain ⟨t, e1, e2⟩ := grown0 (st := st') n (h2 x (List.mem_of_getElem? hd))
        exact ⟨_, _, _, pmat_n, by simp [e1]; rfl, rfl, _, rfl⟩)
    simp [B__law_grown, isD, hf, et]
theorem grown2 (n : Nat) (s : Sto st L K) (hK : K < 100) (h : c2 st L d) : ∃ t st', Q_law_grown_ (n + 3) [d] st = .ok (.str t) st' ∧ textD st' d = some t ∧ Low st st' L := by
  rcases h with h | ⟨xs, rfl, h1, h2⟩
  · obtain ⟨t, st', e1, e2, e3, e4⟩ := grown1 (n + 1) s (by omega) h
    exact ⟨t, st', e1, e2, e4⟩
  · obtain ⟨ρ2, st2, hf, s2, lw, y1, rfl⟩ := for_inv (p := .n 1) (body := (sSeq (sExpr (eCall (Q_law_grown_ (n + 2)) (aCons (eVar 1) aNil))) sNil))
      (fun k ρ st' => Sto st' L (K + k) ∧ Low st st' L ∧ ∃ y1, ρ = [some (.sh (.tup xs)), y1]) xs 0 [some (.sh (.tup xs)), none] st ⟨s, ⟨rfl, fun _ _ => rfl⟩, none, rfl⟩ (by
        rintro j x ρ st' hd ⟨hs, lw, y1, rfl⟩
        have hj : j < xs.length := (List.getElem?_eq_some_iff.mp hd).1
        obtain ⟨t, st2, e1, e2, e3, e4⟩ := grown1 n hs (by omega) ((h2 x (List.mem_of_getElem? hd)).mono (by rw [lw.len]; exact Nat.le_refl _))
        exact ⟨_, _, _, pmat_n, by simp [e1]; rfl, e3, ⟨by rw [e4.len, lw.len], fun j hj => by rw [e4.low j hj, lw.low j hj]⟩, _, rfl⟩)
    obtain ⟨t, et⟩ := (c2_shw s2 (by omega) (.inr ⟨xs, rfl, h1, fun x hx => (h2 x hx).mono (by rw [lw.len]; exact Nat.le_refl _)⟩)).text
    refine ⟨t, st2, ?_, et, lw⟩
    show runD 2 (B__law_grown (Q_law_grown_ (n + 2))) _ st = _
    rw [runD_eq]
    simp [B__law_grown, isD, hf, et]
end
end K43

/-! refused_right: one turn at one door -/
namespace K43
open PySem DL
def atL (p q r : Bool) : List D := (if p then [] else [.int 0]) ++ (if q then [] else [.int 1]) ++ (if r then [] else [.int 2])
theorem atL_ne (p q r : Bool) : neD (.lst (atL p q r)) (.lst []) = some (.bl (!(p && q && r))) := by
  cases p <;> cases q <;> cases r <;> rfl
/-- the store is as it was up to its end -/
structure Ext (st st' : Store) : Prop where
  len : st.length ≤ st'.length
  old : ∀ j, j < st.length → st'[j]? = st[j]?
theorem Ext.refl (st : Store) : Ext st st := ⟨Nat.le_refl _, fun _ _ => rfl⟩
theorem Ext.trans {a b c : Store} (h : Ext a b) (k : Ext b c) : Ext a c := ⟨Nat.le_trans h.len k.len, fun j hj => by rw [k.old j (Nat.lt_of_lt_of_le hj h.len), h.old j hj]⟩
theorem Ext.app (st more : Store) : Ext st (st ++ more) := ⟨by simp, fun j hj => List.getElem?_append_left hj⟩
theorem BoxAt.ext {st st' : Store} {n B : Nat} (b : BoxAt st n B) (h : Ext st st') : BoxAt st' n B := by
  obtain ⟨a, m, c, g, h1, h2⟩ := b.ex
  exact ⟨⟨a, m, c, g, by rw [h.old n (List.getElem?_eq_some_iff.mp h1).1]; exact h1, h2⟩⟩
section
variable {st : Store}
theorem at_comp (p q r : Bool) (x0 x1 x2 x3 x4 x5 x6 x7 x8 x9 x11 x12 x13 x14 : Option Sl) : compL (.n 15) (tNot (tTru (eIx (eVar 10) (eVar 15)))) (eVar 15) [x0, x1, x2, x3, x4, x5, x6, x7, x8, x9, some (.sh (.lst [.bl p, .bl q, .bl r])), x11, x12, x13, x14, none] (rngD 0 3) st = .ok (atL p q r) st := by
  have h3 : rngD 0 3 = [D.int 0, .int 1, .int 2] := rfl
  have i0 : itemD (.lst [.bl p, .bl q, .bl r]) (.int 0) = some (.bl p) := rfl
  have i1 : itemD (.lst [.bl p, .bl q, .bl r]) (.int 1) = some (.bl q) := rfl
  have i2 : itemD (.lst [.bl p, .bl q, .bl r]) (.int 2) = some (.bl r) := rfl
  rw [h3]
  have := comp_pure (p := .n 15) (t := tNot (tTru (eIx (eVar 10) (eVar 15)))) (e := eVar 15) (ρ := [x0, x1, x2, x3, x4, x5, x6, x7, x8, x9, some (.sh (.lst [.bl p, .bl q, .bl r])), x11, x12, x13, x14, none]) (st := st)
    (fun d => match d with | .int i => if i = 0 then !p else if i = 1 then !q else !r | _ => false) id [D.int 0, .int 1, .int 2] (by
      intro d hd
      simp only [List.mem_cons, List.not_mem_nil, or_false] at hd
      rcases hd with rfl | rfl | rfl
      · exact ⟨_, pmat_n, by simp [i0], fun _ => by simp⟩
      · exact ⟨_, pmat_n, by simp [i1], fun _ => by simp⟩
      · exact ⟨_, pmat_n, by simp [i2], fun _ => by simp⟩)
  rw [this]
  cases p <;> cases q <;> cases r <;> rfl
abbrev rBody : SF := (sSeq (sSet 9 (eLst (lDisp (aCons (eCall Q_law_copy (aCons (eVar 5) aNil)) (aCons (eCall Q_law_copy (aCons (eVar 6) aNil)) (aCons (eCall Q_law_copy (aCons (eVar 7) aNil)) aNil))))))
    (sSeq (sSet 10 (eLst (lDisp (aCons (eCall Q_law_is_calendar (aCons (eVar 5) aNil)) (aCons (eAnd (eCall Q_law_is_int (aCons (eVar 6) aNil)) (eOp geD (eVar 6) (eC (.int 0)))) (aCons (eAnd (eCall Q_law_is_int (aCons (eVar 7) aNil)) (eOp geD (eVar 7) (eC (.int 0)))) aNil))))))
    (sSeq (sSet 11 (eRepr (eVar 9)))
    (sSeq (sSet 12 (eCall Q_law_door (aCons (eVar 8) (aCons (eIx (eVar 9) (eC (.int 0))) (aCons (eIx (eVar 9) (eC (.int 1))) (aCons (eIx (eVar 9) (eC (.int 2))) (aCons (eVar 2) aNil)))))))
    (sSeq (sSet 13 (eLst (lDisp (aCons (eC (.str "calendar")) (aCons (eIx (eLst (lDisp (aCons (eC (.str "start")) (aCons (eC (.str "start")) (aCons (eC (.str "end")) aNil))))) (eVar 8)) (aCons (eIx (eLst (lDisp (aCons (eC (.str "end")) (aCons (eC (.str "duration")) (aCons (eC (.str "duration")) aNil))))) (eVar 8)) aNil))))))
    (sSeq (sSet 14 (eLst (lComp (iRng (aCons (eC (.int 3)) aNil)) (.n 15) (tNot (tTru (eIx (eVar 10) (eVar 15)))) (eVar 15) [15])))
    (sSeq (sIf (DL.tOr (tVal (eOp neD (eRepr (eVar 9)) (eVar 11))) (tVal (eOp neD (eIx (eVar 12) (eC (.int 0))) (eIf (tVal (eOp neD (eVar 14) (eLst (lDisp aNil)))) (eIx (eVar 13) (eIx (eVar 14) (eC (.int 0)))) (eC (.str "told")))))) (sSeq (sRet (eC (.bl false)))
    sNil) sNil)
    (sSeq (sIf (DL.tAnd (tVal (eOp neD (eVar 14) (eLst (lDisp aNil)))) (DL.tOr (tVal (eOp isNotD (eIx (eVar 12) (eC (.int 2))) (eC (.bl true)))) (tVal (eOp neD (eCall Q_law_grown (aCons (eIx (eVar 9) (eIx (eVar 14) (eC (.int 0)))) aNil)) (eRepr (eIx (eVar 12) (eC (.int 1)))))))) (sSeq (sRet (eC (.bl false)))
    sNil) sNil)
    sNil))))))))
theorem cnt_due {d : D} (h : f2B d = true) (i : Nat) (ρ : DL.Env) (hi : ρ[i]? = some (some (.sh d))) : eAnd (eCall Q_law_is_int (aCons (eVar i) aNil)) (eOp geD (eVar i) (eC (.int 0))) ρ st = .ok (.d (.bl (cntB d))) st := by
  have e := law_is_int_ok (f2_root (st := st) h)
  have v := eVar_sh (st := st) hi
  cases d with
  | int i => simp [v, e, isIntD, cntB]
  | _ => simp [v, e, isIntD, cntB]
theorem cnt_root {x y : D} (h : root st x = some y) : cntB y = cntB x := by
  cases x with
  | ref k =>
    rw [root_ref] at h
    cases e : st[k]? with
    | none => rw [e] at h; cases h
    | some xs => rw [e] at h; cases h; rfl
  | _ => cases h; rfl
theorem cal_of {d : D} (h : calB d = true) : ∃ cs, d = calD cs ∧ Cal cs := by
  cases d with
  | tup xs =>
    simp only [calB, Bool.and_eq_true, decide_eq_true_eq] at h
    obtain ⟨cs, rfl, hb⟩ := bits_ints h.1.2
    refine ⟨cs, rfl, hb, by simpa using h.1.1.1, by simpa using h.1.1.2, ?_⟩
    obtain ⟨x, hx, h1⟩ := List.any_eq_true.mp h.2
    obtain ⟨c, hc, rfl⟩ := List.mem_map.mp hx
    rw [show (1 : Int) = c from (by simpa [oneB] using h1 : c = 1).symm]
    exact hc
  | _ => simp [calB] at h
def Mid (i : Int) : Prop := i.natAbs < 10 ^ 40
theorem cnt_of {L : Nat} {d : D} (k : c2 st L d) (h : cntB d = true) : ∃ i, d = .int i ∧ 0 ≤ i ∧ Mid i := by
  cases d with
  | int i =>
    refine ⟨i, rfl, by simpa [cntB] using h, ?_⟩
    have : flB (.int i) = true := by
      rcases k with (h | ⟨a, h, _⟩ | ⟨xs, h, _⟩) | ⟨xs, h, _⟩
      · exact h
      · cases h
      · cases h
      · cases h
    simp only [flB, decide_eq_true_eq] at this
    exact this
  | _ => simp [cntB] at h
theorem sm_two {i k : Int} (i0 : 0 ≤ i) (hi : Mid i) (k0 : 0 ≤ k) (hk : Mid k) : Sm (i + k) := by
  have big : (10 : Nat) ^ 40 + 10 ^ 40 < 2 ^ 4000 := by decide +kernel
  unfold Mid at hi hk
  unfold Sm
  omega
theorem sm_ten {i : Int} (i0 : 0 ≤ i) (hi : Mid i) : Sm i := by
  have := sm_two i0 hi (Int.le_refl 0) (by unfold Mid; decide +kernel)
  simpa using this
theorem refuse_turn {w : Int} (hw : w = 0 ∨ w = 1 ∨ w = 2) {b : Bool} {some' first last : D} (g1 : f2B some' = true) (g2 : f2B first = true) (g3 : f2B last = true) (x0 x1 x3 x4 x9 x10 x11 x12 x13 x14 x15 : Option Sl) :
    ∃ y9 y10 y11 y12 y13 y14 st', rBody [x0, x1, some (.sh (.bl b)), x3, x4, some (.sh some'), some (.sh first), some (.sh last), some (.sh (.int w)), x9, x10, x11, x12, x13, x14, x15] st =
      .next [x0, x1, some (.sh (.bl b)), x3, x4, some (.sh some'), some (.sh first), some (.sh last), some (.sh (.int w)), y9, y10, y11, y12, y13, y14, x15] st' ∧ Ext st st' := by
  have s0 : Sto st st.length 70 := ⟨Nat.le_refl _, fun a ys ha e => by
    have := (List.getElem?_eq_some_iff.mp e).1
    omega⟩
  obtain ⟨d1, m1, e1, k1, s1, l1⟩ := copy2 1 s0 g1
  obtain ⟨d2, m2, e2, k2, s2, l2⟩ := copy2 1 s1 g2
  obtain ⟨d3, m3, e3, k3, s3, l3⟩ := copy2 1 s2 g3
  replace e1 : Q_law_copy [some'] st = .ok d1 (st ++ m1) := e1
  replace e2 : Q_law_copy [first] (st ++ m1) = .ok d2 (st ++ m1 ++ m2) := e2
  replace e3 : Q_law_copy [last] (st ++ m1 ++ m2) = .ok d3 (st ++ m1 ++ m2 ++ m3) := e3
  have x0' : Ext st (st ++ m1 ++ m2 ++ m3) := ((Ext.app _ _).trans (Ext.app _ _)).trans (Ext.app _ _)
  replace k1 := k1.mono (st' := st ++ m1 ++ m2 ++ m3) (by simp)
  replace k2 := k2.mono (st' := st ++ m1 ++ m2 ++ m3) (by simp)
  generalize st ++ m1 ++ m2 ++ m3 = st3 at *
  generalize st ++ m1 ++ m2 = st2 at *
  generalize st ++ m1 = st1 at *
  have c5 := law_is_calendar_ok (st := st3) (f2_askd g1) (fun xs e => by subst e; exact f2_items g1)
  have c6 := fun ρ hi => cnt_due (st := st3) g2 6 ρ hi
  have c7 := fun ρ hi => cnt_due (st := st3) g3 7 ρ hi
  obtain ⟨t, et⟩ : ∃ t, textD st3 (.lst [d1, d2, d3]) = some t := (shw_lst (k := 3) (m := 1000000) (fun x hx => by
    simp only [List.mem_cons, List.not_mem_nil, or_false] at hx
    rcases hx with rfl | rfl | rfl
    · exact c2_shw s3 (by decide) k1
    · exact c2_shw s3 (by decide) k2
    · exact c2_shw s3 (by decide) k3) 4000000 (by simp)).text
  have i0 : itemD (.lst [d1, d2, d3]) (.int 0) = some d1 := rfl
  have i1 : itemD (.lst [d1, d2, d3]) (.int 1) = some d2 := rfl
  have i2 : itemD (.lst [d1, d2, d3]) (.int 2) = some d3 := rfl
  have wa : itemD (.lst [.str "start", .str "start", .str "end"]) (.int w) = some (.str (wordA w)) := by
    rcases hw with rfl | rfl | rfl <;> rfl
  have wb : itemD (.lst [.str "end", .str "duration", .str "duration"]) (.int w) = some (.str (wordB w)) := by
    rcases hw with rfl | rfl | rfl <;> rfl
  have r3 : ∀ s : Store, rngK [.int 3] s = .ok (rngD 0 3) s := fun s => rngK1 (by decide) (by decide)
  have l3' : lenK (rngD 0 3) = id := by funext o; exact lenK_ok (by rw [rngD_len]; decide)
  have n3 := atL_ne (calB some') (cntB first) (cntB last)
  have ac := fun x0 x1 x2 x3 x4 x5 x6 x7 x8 x9 x11 x12 x13 x14 => at_comp (st := st3) (calB some') (cntB first) (cntB last) x0 x1 x2 x3 x4 x5 x6 x7 x8 x9 x11 x12 x13 x14
  have a1 := c2_askd k1
  have nt : isNotD (.bl true) (.bl true) = some (.bl false) := rfl
  have j0 : ∀ x y z : D, itemD (.lst [x, y, z]) (.int 0) = some x := fun _ _ _ => rfl
  have j1 : ∀ x y z : D, itemD (.lst [x, y, z]) (.int 1) = some y := fun _ _ _ => rfl
  have j2 : ∀ x y z : D, itemD (.lst [x, y, z]) (.int 2) = some z := fun _ _ _ => rfl
  have h0 : ∀ (i : Int) (xs : List D), itemD (.lst (.int i :: xs)) (.int 0) = some (.int i) := fun _ _ => by simp [itemD, atD, ixD]
  have low : ∀ {st4 : Store}, Low st3 st4 st.length → Ext st st4 := fun lw => ⟨by rw [lw.len]; exact x0'.len, fun j hj => by rw [lw.low j hj, x0'.old j hj]⟩
  cases p : calB some' with
  | false =>
    have dr := door_cal (x := d2) (y := d3) hw b a1 (l1.cal.trans p)
    obtain ⟨t', st4, eg, et', lw⟩ := grown2 1 s3 (by decide) k1
    replace eg : Q_law_grown [d1] st3 = .ok (.str t') st4 := eg
    have at0 : itemD (.lst (atL false (cntB first) (cntB last))) (.int 0) = some (.int 0) := h0 _ _
    rw [p] at n3 ac c5
    exact ⟨_, _, _, _, _, _, st4, by simp [-eAnd_eq, rBody, e1, e2, e3, c5, c6, c7, et, j0, j1, j2, dr, wa, wb, r3, lComp_eq, l3', ac, n3, at0, nt, eg, et']; exact ⟨rfl, rfl, rfl, rfl, rfl, rfl⟩, low lw⟩
  | true =>
    obtain ⟨r2, er2, _⟩ := c2_askd k2
    obtain ⟨r3', er3, _⟩ := c2_askd k3
    have q2 : cntB r2 = cntB d2 := cnt_root er2
    have q3 : cntB r3' = cntB d3 := cnt_root er3
    cases q : cntB first with
    | false =>
      have dr := door_first (y := d3) hw b a1 (l1.cal.trans p) er2 (q2.trans (l2.cnt.trans q))
      obtain ⟨t', st4, eg, et', lw⟩ := grown2 1 s3 (by decide) k2
      replace eg : Q_law_grown [d2] st3 = .ok (.str t') st4 := eg
      have at0 : itemD (.lst (atL true false (cntB last))) (.int 0) = some (.int 1) := h0 _ _
      rw [p, q] at n3 ac
      rw [p] at c5
      rw [q] at c6
      exact ⟨_, _, _, _, _, _, st4, by simp [-eAnd_eq, rBody, e1, e2, e3, c5, c6, c7, et, j0, j1, j2, dr, wa, wb, r3, lComp_eq, l3', ac, n3, at0, nt, eg, et']; exact ⟨rfl, rfl, rfl, rfl, rfl, rfl⟩, low lw⟩
    | true =>
      cases r : cntB last with
      | false =>
        have dr := door_last hw b a1 (l1.cal.trans p) er2 (q2.trans (l2.cnt.trans q)) er3 (q3.trans (l3.cnt.trans r))
        obtain ⟨t', st4, eg, et', lw⟩ := grown2 1 s3 (by decide) k3
        replace eg : Q_law_grown [d3] st3 = .ok (.str t') st4 := eg
        have at0 : itemD (.lst (atL true true false)) (.int 0) = some (.int 2) := h0 _ _
        rw [p, q, r] at n3 ac
        rw [p] at c5
        rw [q] at c6
        rw [r] at c7
        exact ⟨_, _, _, _, _, _, st4, by simp [-eAnd_eq, rBody, e1, e2, e3, c5, c6, c7, et, j0, j1, j2, dr, wa, wb, r3, lComp_eq, l3', ac, n3, at0, nt, eg, et']; exact ⟨rfl, rfl, rfl, rfl, rfl, rfl⟩, low lw⟩
      | true =>
        obtain ⟨cs, hd1, C⟩ := cal_of (l1.cal.trans p)
        obtain ⟨i, hd2, i0', im⟩ := cnt_of k2 (l2.cnt.trans q)
        have i1' := sm_ten i0' im
        obtain ⟨k, hd3, k0', k1', k2'⟩ : ∃ k, d3 = .int k ∧ 0 ≤ k ∧ Sm k ∧ Sm (i + k) := by
          obtain ⟨k, hd3, k0', k1'⟩ := cnt_of k3 (l3.cnt.trans r)
          exact ⟨k, hd3, k0', sm_ten k0' k1', sm_two i0' im k0' k1'⟩
        obtain ⟨y, dr⟩ : ∃ y, Q_law_door [.int w, d1, d2, d3, .bl b] st3 = .ok (.lst [.str "told", y]) st3 := by
          rw [hd1, hd2, hd3]
          rcases hw with rfl | rfl | rfl
          · exact ⟨_, worked_call C i0' k0' i1' k1' b⟩
          · exact ⟨_, done_call C i0' k0' i1' k2' b⟩
          · exact ⟨_, begun_call C i0' k0' i1' b⟩
        have t0 : ∀ x y : D, itemD (.lst [x, y]) (.int 0) = some x := fun _ _ => rfl
        rw [p, q, r] at n3 ac
        rw [p] at c5
        rw [q] at c6
        rw [r] at c7
        exact ⟨_, _, _, _, _, _, st3, by simp [-eAnd_eq, rBody, e1, e2, e3, c5, c6, c7, et, j0, j1, j2, t0, dr, wa, wb, r3, lComp_eq, l3', ac, n3, nt]; exact ⟨rfl, rfl, rfl, rfl, rfl, rfl⟩, x0'⟩
end
end K43

/-! refused_right -/
namespace K43
open PySem DL
section
variable {cs : List Int} {st : Store}
theorem in_ints (k : Int) (ls : List Int) : inD (.int k) (.lst (ls.map .int)) = some (.bl (ls.any fun z => z == k)) := by
  have h1 : ∀ ls : List Int, okDs (ls.map D.int) = true := fun ls => by induction ls <;> simp_all [okDs, okD]
  have h2 : ∀ ls : List Int, depDs (ls.map D.int) = 0 := fun ls => by induction ls <;> simp_all [depDs, depD]
  have f : (fineD (.int k) && fineD (.lst (ls.map .int))) = true := by simp [fineD, okD, depD, h1, h2]
  simp only [inD]
  rw [if_pos f]
  congr 2
  rw [List.any_map]
  rfl
def oddL : List D := [.int (-1), .non, .bl true, .str "0", .lst [.int 0], .tup [.int 0], .bl false, .int (-(10 ^ 30))]
theorem odd_at {r : Int} (h0 : 0 ≤ r) (h1 : r < 8) : ∃ v, itemD (.lst oddL) (.int r) = some v ∧ f2B v = true := by
  obtain ⟨d, e, hd⟩ := list_at (xs := oddL) h0 (by simpa [oddL] using h1)
  have : oddL.all f2B = true := by decide +kernel
  exact ⟨d, e, List.all_eq_true.mp this d hd⟩
theorem pick_some (C : Cal cs) {n B : Nat} {k : Int} (bx : BoxAt st n B) (hB : B < 900000) (ρ : DL.Env) (h0 : ρ[0]? = some (some (.sh (.ref n)))) (h1 : ρ[1]? = some (some (.sh (calD cs)))) (h4 : ρ[4]? = some (some (.sh (.int k)))) :
    ∃ v st', eIf (tVal (eOp inD (eVar 4) (eLst (lDisp (aCons (eC (.int 0)) (aCons (eC (.int 4)) aNil)))))) (eCall Q_law_bad_calendar (aCons (eVar 0) (aCons (eVar 1) aNil))) (eVar 1) ρ st = .ok (.d v) st' ∧ f2B v = true ∧ BoxAt st' n (B + 2) := by
  have hi : inD (.int k) (.lst [.int 0, .int 4]) = some (.bl ([0, 4].any fun z => z == k)) := in_ints k [0, 4]
  have v0 := fun s => eVar_sh (st := s) h0
  have v1 := fun s => eVar_sh (st := s) h1
  have v4 := fun s => eVar_sh (st := s) h4
  generalize ([0, 4].any fun z => z == k) = bb at hi
  cases bb with
  | true =>
    obtain ⟨v, st', e, g1, g2, g3⟩ := bad_calendar_ok C bx hB
    exact ⟨v, st', by simp [v0, v1, v4, hi, e], g1, g2⟩
  | false => exact ⟨calD cs, st, by simp [v0, v1, v4, hi], f2_ints (by have := C.few; simp; omega) (cal_bit C), bx.mono (by omega)⟩
theorem pick_odd {n B : Nat} {k c : Int} {as : AF} {ls : List Int} (has : ∀ ρ s, as ρ s = .ok (ls.map .int) s) (hls : ls.length ≤ 1000) (hc : f2B (.int c) = true) (bx : BoxAt st n B) (hB : B < 900000) (ρ : DL.Env) (h0 : ρ[0]? = some (some (.sh (.ref n)))) (h3 : ρ[3]? = some (some (.sh (.lst oddL)))) (h4 : ρ[4]? = some (some (.sh (.int k)))) :
    ∃ v st', eIf (tVal (eOp inD (eVar 4) (eLst (lDisp as)))) (eIx (eVar 3) (eCall Q_law_take (aCons (eVar 0) (aCons (eC (.int 8)) aNil)))) (eC (.int c)) ρ st = .ok (.d v) st' ∧ f2B v = true ∧ BoxAt st' n (B + 1) := by
  have hi := in_ints k ls
  have v0 := fun s => eVar_sh (st := s) h0
  have v3 := fun s => eVar_sh (st := s) h3
  have v4 := fun s => eVar_sh (st := s) h4
  have hl : (ls.map D.int).length ≤ 16777216 := by rw [List.length_map]; omega
  generalize (ls.any fun z => z == k) = bb at hi
  cases bb with
  | true =>
    obtain ⟨r, s1, e1, g1, l1, b1, k1⟩ := take_k bx (by omega) 8 (by decide) (by decide)
    obtain ⟨v, ev, hv⟩ := odd_at g1 l1
    generalize oddL = ol at *
    generalize ls.map D.int = li at *
    exact ⟨v, s1, by simp [v0, v3, v4, has, hi, hl, e1, ev], hv, b1⟩
  | false =>
    generalize ls.map D.int = li at *
    exact ⟨.int c, st, by simp [v0, v3, v4, has, hi, hl], hc, bx.mono (by omega)⟩
theorem r_inner {n B : Nat} (bx : BoxAt st n B) {b : Bool} {some' first last : D} (g1 : f2B some' = true) (g2 : f2B first = true) (g3 : f2B last = true) (x0 x1 x3 x4 x8 x9 x10 x11 x12 x13 x14 x15 : Option Sl) :
    ∃ y8 y9 y10 y11 y12 y13 y14 st', forS (.n 8) rBody [] (rngD 0 3) [x0, x1, some (.sh (.bl b)), x3, x4, some (.sh some'), some (.sh first), some (.sh last), x8, x9, x10, x11, x12, x13, x14, x15] st =
      .next [x0, x1, some (.sh (.bl b)), x3, x4, some (.sh some'), some (.sh first), some (.sh last), y8, y9, y10, y11, y12, y13, y14, x15] st' ∧ BoxAt st' n B := by
  obtain ⟨ρ2, st2, hf, hb, y8, y9, y10, y11, y12, y13, y14, rfl⟩ := for_inv (p := .n 8) (body := rBody)
    (fun k ρ st' => BoxAt st' n B ∧ ∃ y8 y9 y10 y11 y12 y13 y14, ρ = [x0, x1, some (.sh (.bl b)), x3, x4, some (.sh some'), some (.sh first), some (.sh last), y8, y9, y10, y11, y12, y13, y14, x15]) (rngD 0 3) 0 _ st ⟨bx, x8, x9, x10, x11, x12, x13, x14, rfl⟩ (by
      rintro j d ρ st' hd ⟨hb, y8, y9, y10, y11, y12, y13, y14, rfl⟩
      obtain ⟨w, rfl, w0, w1⟩ := rngD_mem (List.mem_of_getElem? hd)
      obtain ⟨z9, z10, z11, z12, z13, z14, st2, e, he⟩ := refuse_turn (st := st') (w := w) (by omega) (b := b) g1 g2 g3 x0 x1 x3 x4 y9 y10 y11 y12 y13 y14 x15
      exact ⟨_, _, _, pmat_n, e, hb.ext he, _, _, _, _, _, _, _, rfl⟩)
  exact ⟨y8, y9, y10, y11, y12, y13, y14, st2, hf, hb⟩
abbrev rOuter : SF := (sSeq (sSet 5 (eIf (tVal (eOp inD (eVar 4) (eLst (lDisp (aCons (eC (.int 0)) (aCons (eC (.int 4)) aNil)))))) (eCall Q_law_bad_calendar (aCons (eVar 0) (aCons (eVar 1) aNil))) (eVar 1)))
    (sSeq (sSet 6 (eIf (tVal (eOp inD (eVar 4) (eLst (lDisp (aCons (eC (.int 1)) (aCons (eC (.int 3)) (aCons (eC (.int 4)) (aCons (eC (.int 5)) aNil)))))))) (eIx (eVar 3) (eCall Q_law_take (aCons (eVar 0) (aCons (eC (.int 8)) aNil)))) (eC (.int 3))))
    (sSeq (sSet 7 (eIf (tVal (eOp inD (eVar 4) (eLst (lDisp (aCons (eC (.int 2)) (aCons (eC (.int 3)) (aCons (eC (.int 4)) aNil))))))) (eIx (eVar 3) (eCall Q_law_take (aCons (eVar 0) (aCons (eC (.int 8)) aNil)))) (eC (.int 5))))
    (sSeq (sFor (iRng (aCons (eC (.int 3)) aNil)) (.n 8) rBody [])
    sNil))))
theorem r_outer (C : Cal cs) {n B : Nat} (bx : BoxAt st n B) (hB : B < 800000) {b : Bool} {k : Int} (x5 x6 x7 x8 x9 x10 x11 x12 x13 x14 x15 : Option Sl) :
    ∃ y5 y6 y7 y8 y9 y10 y11 y12 y13 y14 st', rOuter [some (.sh (.ref n)), some (.sh (calD cs)), some (.sh (.bl b)), some (.sh (.lst oddL)), some (.sh (.int k)), x5, x6, x7, x8, x9, x10, x11, x12, x13, x14, x15] st =
      .next [some (.sh (.ref n)), some (.sh (calD cs)), some (.sh (.bl b)), some (.sh (.lst oddL)), some (.sh (.int k)), y5, y6, y7, y8, y9, y10, y11, y12, y13, y14, x15] st' ∧ BoxAt st' n (B + 4) := by
  obtain ⟨v1, s1, e1, g1, b1⟩ := pick_some (k := k) C bx (by omega) [some (.sh (.ref n)), some (.sh (calD cs)), some (.sh (.bl b)), some (.sh (.lst oddL)), some (.sh (.int k)), x5, x6, x7, x8, x9, x10, x11, x12, x13, x14, x15] rfl rfl rfl
  obtain ⟨v2, s2, e2, g2, b2⟩ := pick_odd (k := k) (c := 3) (ls := [1, 3, 4, 5]) (as := aCons (eC (.int 1)) (aCons (eC (.int 3)) (aCons (eC (.int 4)) (aCons (eC (.int 5)) aNil)))) (fun ρ s => by simp) (by decide) (by decide) b1 (by omega) [some (.sh (.ref n)), some (.sh (calD cs)), some (.sh (.bl b)), some (.sh (.lst oddL)), some (.sh (.int k)), some (.sh v1), x6, x7, x8, x9, x10, x11, x12, x13, x14, x15] rfl rfl rfl
  obtain ⟨v3, s3, e3, g3, b3⟩ := pick_odd (k := k) (c := 5) (ls := [2, 3, 4]) (as := aCons (eC (.int 2)) (aCons (eC (.int 3)) (aCons (eC (.int 4)) aNil))) (fun ρ s => by simp) (by decide) (by decide) b2 (by omega) [some (.sh (.ref n)), some (.sh (calD cs)), some (.sh (.bl b)), some (.sh (.lst oddL)), some (.sh (.int k)), some (.sh v1), some (.sh v2), x7, x8, x9, x10, x11, x12, x13, x14, x15] rfl rfl rfl
  obtain ⟨y8, y9, y10, y11, y12, y13, y14, s4, e4, b4⟩ := r_inner (b := b) b3 g1 g2 g3 (some (.sh (.ref n))) (some (.sh (calD cs))) (some (.sh (.lst oddL))) (some (.sh (.int k))) x8 x9 x10 x11 x12 x13 x14 x15
  have r3 : ∀ s : Store, rngK [.int 3] s = .ok (rngD 0 3) s := fun s => rngK1 (by decide) (by decide)
  refine ⟨some (.sh v1), some (.sh v2), some (.sh v3), y8, y9, y10, y11, y12, y13, y14, s4, ?_, b4⟩
  simp [-eIf_eq, rOuter, e1, e2, e3, r3, e4]
theorem refused_ok (C : Cal cs) {n B : Nat} {b : Bool} (bx : BoxAt st n B) (hB : B < 700000) : ∃ st', Q_law_refused_right [.ref n, calD cs, .bl b] st = .ok (.bl true) st' ∧ BoxAt st' n (B + 24) := by
  unfold Q_law_refused_right
  rw [runD_eq]
  have r6 : ∀ s : Store, rngK [.int 6] s = .ok (rngD 0 6) s := fun s => rngK1 (by decide) (by decide)
  have p1 : powD (.int 10) (.int 30) = some (.int (10 ^ 30)) := pow_ok (k := 30) (by decide) (by decide +kernel)
  obtain ⟨big, hbig⟩ : ∃ x : Int, x = 10 ^ 30 := ⟨_, rfl⟩
  rw [← hbig] at p1
  have n1 : negD (.int 1) = some (.int (-1)) := rfl
  have n2 : negD (.int big) = some (.int (-big)) := rfl
  have ho : [D.int (-1), .non, .bl true, .str "0", .lst [.int 0], .tup [.int 0], .bl false, .int (-big)] = oddL := by rw [hbig]; rfl
  obtain ⟨ρ2, st2, hf, hb, y4, y5, y6, y7, y8, y9, y10, y11, y12, y13, y14, rfl⟩ := for_inv (p := .n 4) (body := rOuter)
    (fun k ρ st' => BoxAt st' n (B + 4 * k) ∧ ∃ y4 y5 y6 y7 y8 y9 y10 y11 y12 y13 y14, ρ = [some (.sh (.ref n)), some (.sh (calD cs)), some (.sh (.bl b)), some (.sh (.lst oddL)), y4, y5, y6, y7, y8, y9, y10, y11, y12, y13, y14, none]) (rngD 0 6) 0 _ st ⟨bx, none, none, none, none, none, none, none, none, none, none, none, rfl⟩ (by
      rintro j d ρ st' hd ⟨hb, y4, y5, y6, y7, y8, y9, y10, y11, y12, y13, y14, rfl⟩
      have hj : j < (rngD 0 6).length := (List.getElem?_eq_some_iff.mp hd).1
      rw [rngD_len] at hj
      obtain ⟨k, rfl, w0, w1⟩ := rngD_mem (List.mem_of_getElem? hd)
      obtain ⟨z5, z6, z7, z8, z9, z10, z11, z12, z13, z14, st2, e, he⟩ := r_outer (b := b) (k := k) C hb (by omega) y5 y6 y7 y8 y9 y10 y11 y12 y13 y14 none
      exact ⟨_, _, _, pmat_n, e, he.mono (by omega), _, _, _, _, _, _, _, _, _, _, _, rfl⟩)
  refine ⟨st2, ?_, hb.mono (by rw [rngD_len]; simp)⟩
  rw [← ho] at hf
  simp [B__law_refused_right, n1, p1, n2, r6, hf]
end
end K43

/-! the law -/
namespace K43
open PySem DL
section
variable {cs : List Int} {st : Store}
theorem box_ok (g : Int) : ∃ bs : List D, Q_law_box [.int g] st = .ok (.ref st.length) (st ++ [bs]) ∧ BoxAt (st ++ [bs]) st.length 0 := by
  have p1 : powD (.int 10) (.int 18) = some (.int (10 ^ 18)) := pow_ok (k := 18) (by decide) (by decide +kernel)
  obtain ⟨big, hbig⟩ : ∃ x : Int, x = 10 ^ 18 := ⟨_, rfl⟩
  rw [← hbig] at p1
  obtain ⟨a, ha⟩ : ∃ a : Int, a = if g < 0 then -g else g := ⟨_, rfl⟩
  have m1 : modD (.int a) (.int 2147483629) = some (.int (a % 2147483629)) := mod_ok (by decide)
  have ab : absB [.int g] = some (.int a) := by rw [absB_int, ha]
  refine ⟨[.int a, .bl (decide (big ≤ a)), .int (a % 2147483629), .int 0], ?_, ⟨⟨a, a % 2147483629, 0, decide (big ≤ a), ?_, ?_, ?_, by omega, by omega⟩⟩⟩
  · unfold Q_law_box
    rw [runD_eq]
    simp [-absB_int, B__law_box, ab, p1, m1]
  · simp
  · exact Int.emod_nonneg _ (by decide)
  · exact Int.emod_lt_of_pos _ (by decide)
theorem cell_ok (ns : List Int) {k : Int} (h0 : 0 ≤ k) (h1 : k < 10) : ∃ c, Q_law_cell [.scr ns, .int k] st = .ok (.int c) st := by
  unfold Q_law_cell
  rw [runD_eq]
  by_cases h : k < (ns.length : Int)
  · obtain ⟨j, rfl⟩ := Int.eq_ofNat_of_zero_le h0
    have hj : j < ns.length := by omega
    have e : itemD (.scr ns) (.int (j : Int)) = some (.int ns[j]) := by
      show (atD ns (j : Int)).map D.int = _
      rw [atD_nat rfl (List.getElem?_eq_getElem hj)]
      rfl
    have c : decide ((j : Int) < (ns.length : Int)) = true := decide_eq_true h
    exact ⟨_, by simp [-Int.ofNat_lt, B__law_cell, c, e]; rfl⟩
  · have c : decide (k < (ns.length : Int)) = false := decide_eq_false h
    have m1 : mulD (.int 7237) (.int k) = some (.int (7237 * k)) := mul_ok (sm_int (by decide) (by decide)) (sm_int (by omega) (by omega))
    have s1 : sliceD (.scr ns) none (some 1) = some (.lst ((cutD ns none (some 1)).map .int)) := rfl
    generalize cutD ns none (some 1) = ys at s1
    have s2 : sumB [.lst (ys.map .int)] = some (.int ys.sum) := by
      show (intsD _).map _ = _
      rw [intsD_map]
      rfl
    generalize ys.map D.int = zs at *
    have m2 : modD (.int ys.sum) (.int 1000003) = some (.int (ys.sum % 1000003)) := mod_ok (by decide)
    generalize ys.sum = sm at *
    exact ⟨_, by simp [B__law_cell, c, m1, s1, s2, m2]; rfl⟩
/-- what is kept -/
def Kp (d : D) : Prop := ∃ (cs : List Int) (a b : Int), Cal cs ∧ d = .lst [calD cs, .int a, .int b] ∧ 0 ≤ a ∧ a < 40 ∧ 0 ≤ b ∧ b < 12
abbrev lBody : SF := (sSeq (sSet 3 (eCall Q_law_box (aCons (eCall Q_law_cell (aCons (eVar 0) (aCons (eVar 2) aNil))) aNil)))
    (sSeq (sPar [4, 5, 6] (aCons (eOp eqD (eCall Q_law_take (aCons (eVar 3) (aCons (eC (.int 2)) aNil))) (eC (.int 1))) (aCons (eCall Q_law_take (aCons (eVar 3) (aCons (eC (.int 2)) aNil))) (aCons (eCall Q_law_calendar (aCons (eVar 3) aNil)) aNil))))
    (sSeq (sIf (DL.tAnd (tVal (eOp eqD (eVar 5) (eC (.int 0)))) (tNot (tTru (eCall Q_law_refused_right (aCons (eVar 3) (aCons (eVar 6) (aCons (eVar 4) aNil))))))) (sSeq (sRet (eC (.bl false)))
    sNil) sNil)
    (sSeq (sIf (DL.tOr (tNot (tTru (eCall Q_law_tests_right (aCons (eVar 3) (aCons (eVar 6) aNil))))) (tNot (tTru (eCall Q_law_great_right (aCons (eVar 3) (aCons (eVar 6) (aCons (eVar 4) aNil))))))) (sSeq (sRet (eC (.bl false)))
    sNil) sNil)
    (sSeq (sIf (tNot (tTru (eCall Q_law_counted_right (aCons (eVar 3) (aCons (eVar 6) (aCons (eIf (tVal (eOp gtD (eVar 2) (eC (.int 0)))) (eCall Q_law_take (aCons (eVar 3) (aCons (eC (.int 50)) aNil))) (eCall Q_law_take (aCons (eVar 3) (aCons (eC (.int 4)) aNil)))) (aCons (eVar 4) aNil))))))) (sSeq (sRet (eC (.bl false)))
    sNil) sNil)
    (sSeq (sIf (DL.tAnd (tVal (eOp eqD (eVar 5) (eC (.int 1)))) (tNot (tTru (eCall Q_law_refused_right (aCons (eVar 3) (aCons (eVar 6) (aCons (eVar 4) aNil))))))) (sSeq (sRet (eC (.bl false)))
    sNil) sNil)
    (sSeq (sX (xMut appD 1 (aCons (eLst (lDisp (aCons (eVar 6) (aCons (eCall Q_law_take (aCons (eVar 3) (aCons (eC (.int 40)) aNil))) (aCons (eCall Q_law_take (aCons (eVar 3) (aCons (eC (.int 12)) aNil))) aNil))))) aNil)))
    sNil)))))))
theorem first_ok {n B : Nat} {k : Int} (bx : BoxAt st n B) (hB : B < 900000) (ρ : DL.Env) (h3 : ρ[3]? = some (some (.sh (.ref n)))) (h2 : ρ[2]? = some (some (.sh (.int k)))) :
    ∃ f st', eIf (tVal (eOp gtD (eVar 2) (eC (.int 0)))) (eCall Q_law_take (aCons (eVar 3) (aCons (eC (.int 50)) aNil))) (eCall Q_law_take (aCons (eVar 3) (aCons (eC (.int 4)) aNil))) ρ st = .ok (.d (.int f)) st' ∧ 0 ≤ f ∧ f < 100 ∧ BoxAt st' n (B + 1) := by
  have v2 := fun s => eVar_sh (st := s) h2
  have v3 := fun s => eVar_sh (st := s) h3
  cases c : decide (0 < k) with
  | true =>
    obtain ⟨r, s1, e1, g1, l1, b1, k1⟩ := take_k bx (by omega) 50 (by decide) (by decide)
    exact ⟨r, s1, by simp [-decide_eq_true_eq, v2, v3, c, e1], g1, by omega, b1⟩
  | false =>
    obtain ⟨r, s1, e1, g1, l1, b1, k1⟩ := take_k bx (by omega) 4 (by decide) (by decide)
    exact ⟨r, s1, by simp [-decide_eq_false_iff_not, v2, v3, c, e1], g1, by omega, b1⟩
theorem l_turn (ns : List Int) {k : Int} (h0 : 0 ≤ k) (h1 : k < 10) {ks : List D} (hks : ks.length ≤ 10) (x3 x4 x5 x6 x7 x8 x9 : Option Sl) :
    ∃ d y3 y4 y5 y6 st', lBody [some (.sh (.scr ns)), some (.o1 ks), some (.sh (.int k)), x3, x4, x5, x6, x7, x8, x9] st = .next [some (.sh (.scr ns)), some (.o1 (ks ++ [d])), some (.sh (.int k)), y3, y4, y5, y6, x7, x8, x9] st' ∧ Kp d := by
  obtain ⟨c, ec⟩ := cell_ok (st := st) ns h0 h1
  obtain ⟨bs, eb, b0⟩ := box_ok (st := st) c
  generalize st ++ [bs] = s0 at *
  generalize st.length = n at *
  obtain ⟨r1, s1, e1, g1, l1, b1, k1⟩ := take_k b0 (by omega) 2 (by decide) (by decide)
  obtain ⟨r2, s2, e2, g2, l2, b2, k2⟩ := take_k b1 (by omega) 2 (by decide) (by decide)
  obtain ⟨cs, s3, e3, C, b3, k3⟩ := calendar_ok b2 (by omega)
  have hap : ∀ d : D, appD ks [d] = some (ks ++ [d], .non) := fun d => by
    simp only [appD]
    rw [if_pos (by show ks.length < 16777216; omega)]
  have ref : ∀ (B : Nat) (s : Store), BoxAt s n B → B < 700000 → ∃ st', Q_law_refused_right [.ref n, calD cs, .bl (r1 == 1)] s = .ok (.bl true) st' ∧ BoxAt st' n (B + 24) := fun B s h hB => refused_ok C h hB
  by_cases w : r2 = 0
  · subst w
    obtain ⟨s4, e4, b4⟩ := ref _ _ b3 (by omega)
    obtain ⟨s5, e5, b5, _⟩ := tests_ok C b4 (by omega)
    obtain ⟨s6, e6, b6, _⟩ := great_ok (b := (r1 == 1)) C b5 (by omega)
    obtain ⟨f, s7, e7, f0, f1, b7⟩ := first_ok (k := k) b6 (by omega) [some (.sh (.scr ns)), some (.o1 ks), some (.sh (.int k)), some (.sh (.ref n)), some (.sh (.bl (r1 == 1))), some (.sh (.int 0)), some (.sh (calD cs)), x7, x8, x9] rfl rfl
    obtain ⟨s8, e8, b8, _⟩ := counted_ok (b := (r1 == 1)) C f0 f1 b7 (by omega)
    obtain ⟨r9, s9, e9, g9, l9, b9, _⟩ := take_k b8 (by omega) 40 (by decide) (by decide)
    obtain ⟨r10, s10, e10, g10, l10, b10, _⟩ := take_k b9 (by omega) 12 (by decide) (by decide)
    refine ⟨.lst [calD cs, .int r9, .int r10], some (.sh (.ref n)), some (.sh (.bl (r1 == 1))), some (.sh (.int 0)), some (.sh (calD cs)), s10, ?_, cs, r9, r10, C, rfl, g9, l9, g10, l10⟩
    simp [-eIf_eq, lBody, ec, eb, e1, e2, e3, e4, e5, e6, e7, e8, e9, e10, sX, xMut, hap]
  · have w1 : r2 = 1 := by omega
    subst w1
    obtain ⟨s5, e5, b5, _⟩ := tests_ok C b3 (by omega)
    obtain ⟨s6, e6, b6, _⟩ := great_ok (b := (r1 == 1)) C b5 (by omega)
    obtain ⟨f, s7, e7, f0, f1, b7⟩ := first_ok (k := k) b6 (by omega) [some (.sh (.scr ns)), some (.o1 ks), some (.sh (.int k)), some (.sh (.ref n)), some (.sh (.bl (r1 == 1))), some (.sh (.int 1)), some (.sh (calD cs)), x7, x8, x9] rfl rfl
    obtain ⟨s8, e8, b8, _⟩ := counted_ok (b := (r1 == 1)) C f0 f1 b7 (by omega)
    obtain ⟨s4, e4, b4⟩ := ref _ _ b8 (by omega)
    obtain ⟨r9, s9, e9, g9, l9, b9, _⟩ := take_k b4 (by omega) 40 (by decide) (by decide)
    obtain ⟨r10, s10, e10, g10, l10, b10, _⟩ := take_k b9 (by omega) 12 (by decide) (by decide)
    refine ⟨.lst [calD cs, .int r9, .int r10], some (.sh (.ref n)), some (.sh (.bl (r1 == 1))), some (.sh (.int 1)), some (.sh (calD cs)), s10, ?_, cs, r9, r10, C, rfl, g9, l9, g10, l10⟩
    simp [-eIf_eq, lBody, ec, eb, e1, e2, e3, e4, e5, e6, e7, e8, e9, e10, sX, xMut, hap]
abbrev kInner : SF := (sSeq (sIf (tNot (tTru (eCall Q_law_same (aCons (eCall Q_law_door (aCons (eVar 9) (aCons (eVar 6) (aCons (eVar 7) (aCons (eVar 8) (aCons (eOp eqD (eVar 9) (eC (.int 1))) aNil)))))) (aCons (eCall Q_law_due (aCons (eVar 9) (aCons (eVar 6) (aCons (eVar 7) (aCons (eVar 8) aNil))))) aNil))))) (sSeq (sRet (eC (.bl false)))
    sNil) sNil)
    sNil)
theorem k_turn {d : D} (h : Kp d) (x0 x1 x2 x3 x4 x5 x6 x7 x8 x9 : Option Sl) : ∃ as y6 y7 y8 y9, pmat (.t [(.n 6), (.n 7), (.n 8)]) d = some as ∧ (sSeq (sFor (iRng (aCons (eC (.int 3)) aNil)) (.n 9) kInner []) sNil) (setMany [x0, x1, x2, x3, x4, x5, x6, x7, x8, x9] as) st = .next [x0, x1, x2, x3, x4, x5, y6, y7, y8, y9] st := by
  obtain ⟨cs, a, b, C, rfl, a0, a1, b0, b1⟩ := h
  have r3 : ∀ s : Store, rngK [.int 3] s = .ok (rngD 0 3) s := fun s => rngK1 (by decide) (by decide)
  obtain ⟨ρ2, st2, hf, rfl, y9, rfl⟩ := for_inv (p := .n 9) (body := kInner)
    (fun k ρ st' => st' = st ∧ ∃ y9, ρ = [x0, x1, x2, x3, x4, x5, some (.sh (calD cs)), some (.sh (.int a)), some (.sh (.int b)), y9]) (rngD 0 3) 0 _ st ⟨rfl, x9, rfl⟩ (by
      rintro j d ρ st' hd ⟨rfl, y9, rfl⟩
      obtain ⟨w, rfl, w0, w1⟩ := rngD_mem (List.mem_of_getElem? hd)
      obtain ⟨x, e1, e2, e3⟩ := door_due (st := st') (w := w) C (by omega) a0 b0 (sm_int (by omega) (by omega)) (sm_int (by omega) (by omega)) (sm_int (by omega) (by omega)) (w == 1)
      exact ⟨_, _, _, pmat_n, by simp [kInner, e1, e2, e3]; rfl, rfl, _, rfl⟩)
  exact ⟨_, _, _, _, _, rfl, by simp [r3, hf]; exact ⟨rfl, rfl, rfl, rfl⟩⟩
theorem law_ok : ∀ ns : List Int, ns.length ≤ 63 → ∃ st, Qlaw [.scr ns] [] = .ok (.bl true) st := by
  intro ns hl
  obtain ⟨m, em, m0, m1⟩ : ∃ m : Int, maxB [.int 2, .int (if (ns.length : Int) < 3 then (ns.length : Int) else 3)] = some (.int m) ∧ 0 ≤ m ∧ m ≤ 3 := by
    refine ⟨_, rfl, ?_, ?_⟩ <;> split <;> split <;> omega
  have en : minB [.int 3, .int (ns.length : Int)] = some (.int (if (ns.length : Int) < 3 then (ns.length : Int) else 3)) := rfl
  generalize (if (ns.length : Int) < 3 then (ns.length : Int) else 3) = mn at *
  have rm : ∀ s : Store, rngK [.int m] s = .ok (rngD 0 m) s := fun s => rngK1 (by omega) (by omega)
  obtain ⟨ρ2, st2, hf, ks, hkl, hk, y2, y3, y4, y5, y6, rfl⟩ := for_inv (p := .n 2) (body := lBody)
    (fun k ρ st' => ∃ ks : List D, ks.length = k ∧ (∀ d ∈ ks, Kp d) ∧ ∃ y2 y3 y4 y5 y6, ρ = [some (.sh (.scr ns)), some (.o1 ks), y2, y3, y4, y5, y6, none, none, none]) (rngD 0 m) 0 _ [] ⟨[], rfl, by simp, none, none, none, none, none, rfl⟩ (by
      rintro j d ρ st' hd ⟨ks, hkl, hk, y2, y3, y4, y5, y6, rfl⟩
      have hj : j < (rngD 0 m).length := (List.getElem?_eq_some_iff.mp hd).1
      rw [rngD_len] at hj
      obtain ⟨k, rfl, w0, w1⟩ := rngD_mem (List.mem_of_getElem? hd)
      obtain ⟨d, z3, z4, z5, z6, st2, e, hd2⟩ := l_turn (st := st') ns (k := k) w0 (by omega) (ks := ks) (by omega) y3 y4 y5 y6 none none none
      refine ⟨_, _, _, pmat_n, e, ks ++ [d], by simp [hkl], fun x hx => ?_, _, _, _, _, _, rfl⟩
      rcases List.mem_append.mp hx with h | h
      · exact hk x h
      · rw [List.mem_singleton] at h; rw [h]; exact hd2)
  obtain ⟨ρ3, st3, hf3, rfl, z6, z7, z8, z9, rfl⟩ := for_inv (p := .t [(.n 6), (.n 7), (.n 8)]) (body := (sSeq (sFor (iRng (aCons (eC (.int 3)) aNil)) (.n 9) kInner []) sNil))
    (fun k ρ st' => st' = st2 ∧ ∃ y6 y7 y8 y9, ρ = [some (.sh (.scr ns)), some (.sh (.lst ks)), y2, y3, y4, y5, y6, y7, y8, y9]) ks 0 _ st2 ⟨rfl, y6, none, none, none, rfl⟩ (by
      rintro j d ρ st' hd ⟨rfl, y6, y7, y8, y9, rfl⟩
      obtain ⟨as, z6, z7, z8, z9, e1, e2⟩ := k_turn (st := st') (hk d (List.mem_of_getElem? hd)) (some (.sh (.scr ns))) (some (.sh (.lst ks))) y2 y3 y4 y5 y6 y7 y8 y9
      exact ⟨as, _, _, e1, e2, rfl, _, _, _, _, rfl⟩)
  refine ⟨st3, ?_⟩
  unfold Qlaw
  rw [runD_eq]
  simp [B_law, en, em, rm, hf, sFrz, frzS, hf3]
end
end K43

open PySem PySem.W PyProof.Rows
set_option maxRecDepth 100000 in
set_option maxHeartbeats 0 in
theorem PySem.Challenge.cw_planwide_k43_working_days_by_counting_holds : PySem.Challenge.rw_planwide_k43_working_days_by_counting.Holds := by
  w_on; o_law; k_head; (case hw => w_witness2)
  k_fill
  refine DL.walkG (l := PySem.Challenge.rw_planwide_k43_working_days_by_counting) (n := 63) (k := 7) (x := "script") (M := K43.Qlaw) rfl (by decide) rfl ⟨rfl, by decide, by decide⟩ (fun w h Y => PySem.W.kIn_of Y) ?F K43.law_ok
  case F =>
    intro w mg fa h KX G hmg
    refine' K43.all_mk KX G hmg ?a__law_box ?l__law_box ?c__law_box ?k__law_box ?a__law_cell ?l__law_cell ?c__law_cell ?k__law_cell ?a__law_take ?l__law_take ?c__law_take ?k__law_take ?a__law_calendar ?l__law_calendar ?c__law_calendar ?k__law_calendar ?a__law_same ?l__law_same ?c__law_same ?k__law_same ?a_is_integer ?l_is_integer ?c_is_integer ?k_is_integer ?a_is_calendar ?l_is_calendar ?c_is_calendar ?k_is_calendar ?a_check_calendar ?l_check_calendar ?c_check_calendar ?k_check_calendar ?a_is_count ?l_is_count ?c_is_count ?k_is_count ?a_days_until ?l_days_until ?c_days_until ?k_days_until ?a_time_of_day ?l_time_of_day ?c_time_of_day ?k_time_of_day ?a_begun_at ?l_begun_at ?c_begun_at ?k_begun_at ?a_begun ?l_begun ?c_begun ?k_begun ?a_worked ?l_worked ?c_worked ?k_worked ?a_done_at ?l_done_at ?c_done_at ?k_done_at ?a_done ?l_done ?c_done ?k_done ?a__law_door ?l__law_door ?c__law_door ?k__law_door ?a__law_counted_right ?l__law_counted_right ?c__law_counted_right ?k__law_counted_right ?a__law_bad_calendar ?l__law_bad_calendar ?c__law_bad_calendar ?k__law_bad_calendar ?a__law_copy ?l__law_copy ?c__law_copy ?k__law_copy ?a__law_is_int ?l__law_is_int ?c__law_is_int ?k__law_is_int ?a__law_is_calendar ?l__law_is_calendar ?c__law_is_calendar ?k__law_is_calendar ?a__law_grown ?l__law_grown ?c__law_grown ?k__law_grown ?a__law_refused_right ?l__law_refused_right ?c__law_refused_right ?k__law_refused_right ?a__law_tests_right ?l__law_tests_right ?c__law_tests_right ?k__law_tests_right ?a__law_worked ?l__law_worked ?c__law_worked ?k__law_worked ?a__law_done ?l__law_done ?c__law_done ?k__law_done ?a__law_begun ?l__law_begun ?c__law_begun ?k__law_begun ?a__law_due ?l__law_due ?c__law_due ?k__law_due ?a__law_great_right ?l__law_great_right ?c__law_great_right ?k__law_great_right ?a_law ?l_law ?c_law ?k_law ?z_abs ?z_all ?z_bool ?z_dict ?z_enumerate ?z_int ?z_isinstance ?z_len ?z_list ?z_max ?z_min ?z_range ?z_repr ?z_str ?z_sum ?z_tuple ?v_MOST_DAYS ?aC_InvalidCalendars ?ex_InvalidCalendars ?ty_InvalidCalendars ?hd_InvalidCalendars ?aC_InvalidDuration ?ex_InvalidDuration ?ty_InvalidDuration ?hd_InvalidDuration ?aC_InvalidEnd ?ex_InvalidEnd ?ty_InvalidEnd ?hd_InvalidEnd ?aC_InvalidStart ?ex_InvalidStart ?ty_InvalidStart ?hd_InvalidStart ?aC_PlanError ?ex_PlanError ?ty_PlanError ?hd_PlanError ?lC_InvalidCalendars ?qC_InvalidCalendars ?sa_InvalidCalendars ?kC_InvalidCalendars ?no_InvalidCalendars ?in_InvalidCalendars ?it_InvalidCalendars ?lI_InvalidCalendars ?cI_InvalidCalendars ?kI2_InvalidCalendars ?ga_InvalidCalendars ?gg_InvalidCalendars ?cl_InvalidCalendars ?mr_InvalidCalendars ?su_InvalidCalendars_InvalidCalendars ?su_InvalidCalendars_InvalidDuration ?su_InvalidCalendars_InvalidEnd ?su_InvalidCalendars_InvalidStart ?su_InvalidCalendars_PlanError ?lC_InvalidDuration ?qC_InvalidDuration ?sa_InvalidDuration ?kC_InvalidDuration ?no_InvalidDuration ?in_InvalidDuration ?it_InvalidDuration ?lI_InvalidDuration ?cI_InvalidDuration ?kI2_InvalidDuration ?ga_InvalidDuration ?gg_InvalidDuration ?cl_InvalidDuration ?mr_InvalidDuration ?su_InvalidDuration_InvalidCalendars ?su_InvalidDuration_InvalidDuration ?su_InvalidDuration_InvalidEnd ?su_InvalidDuration_InvalidStart ?su_InvalidDuration_PlanError ?lC_InvalidEnd ?qC_InvalidEnd ?sa_InvalidEnd ?kC_InvalidEnd ?no_InvalidEnd ?in_InvalidEnd ?it_InvalidEnd ?lI_InvalidEnd ?cI_InvalidEnd ?kI2_InvalidEnd ?ga_InvalidEnd ?gg_InvalidEnd ?cl_InvalidEnd ?mr_InvalidEnd ?su_InvalidEnd_InvalidCalendars ?su_InvalidEnd_InvalidDuration ?su_InvalidEnd_InvalidEnd ?su_InvalidEnd_InvalidStart ?su_InvalidEnd_PlanError ?lC_InvalidStart ?qC_InvalidStart ?sa_InvalidStart ?kC_InvalidStart ?no_InvalidStart ?in_InvalidStart ?it_InvalidStart ?lI_InvalidStart ?cI_InvalidStart ?kI2_InvalidStart ?ga_InvalidStart ?gg_InvalidStart ?cl_InvalidStart ?mr_InvalidStart ?su_InvalidStart_InvalidCalendars ?su_InvalidStart_InvalidDuration ?su_InvalidStart_InvalidEnd ?su_InvalidStart_InvalidStart ?su_InvalidStart_PlanError ?g1_PlanError ?g2_PlanError ?g3_PlanError ?dn ?dt
    (case a__law_box => k_is)
    (case l__law_box => k_is)
    (case c__law_box => k_is)
    (case k__law_box => k_is)
    (case a__law_cell => k_is)
    (case l__law_cell => k_is)
    (case c__law_cell => k_is)
    (case k__law_cell => k_is)
    (case a__law_take => k_is)
    (case l__law_take => k_is)
    (case c__law_take => k_is)
    (case k__law_take => k_is)
    (case a__law_calendar => k_is)
    (case l__law_calendar => k_is)
    (case c__law_calendar => k_is)
    (case k__law_calendar => k_is)
    (case a__law_same => k_is)
    (case l__law_same => k_is)
    (case c__law_same => k_is)
    (case k__law_same => k_is)
    (case a_is_integer => k_is)
    (case l_is_integer => k_is)
    (case c_is_integer => k_is)
    (case k_is_integer => k_is)
    (case a_is_calendar => k_is)
    (case l_is_calendar => k_is)
    (case c_is_calendar => k_is)
    (case k_is_calendar => k_is)
    (case a_check_calendar => k_is)
    (case l_check_calendar => k_is)
    (case c_check_calendar => k_is)
    (case k_check_calendar => k_is)
    (case a_is_count => k_is)
    (case l_is_count => k_is)
    (case c_is_count => k_is)
    (case k_is_count => k_is)
    (case a_days_until => k_is)
    (case l_days_until => k_is)
    (case c_days_until => k_is)
    (case k_days_until => k_is)
    (case a_time_of_day => k_is)
    (case l_time_of_day => k_is)
    (case c_time_of_day => k_is)
    (case k_time_of_day => k_is)
    (case a_begun_at => k_is)
    (case l_begun_at => k_is)
    (case c_begun_at => k_is)
    (case k_begun_at => k_is)
    (case a_begun => k_is)
    (case l_begun => k_is)
    (case c_begun => k_is)
    (case k_begun => k_is)
    (case a_worked => k_is)
    (case l_worked => k_is)
    (case c_worked => k_is)
    (case k_worked => k_is)
    (case a_done_at => k_is)
    (case l_done_at => k_is)
    (case c_done_at => k_is)
    (case k_done_at => k_is)
    (case a_done => k_is)
    (case l_done => k_is)
    (case c_done => k_is)
    (case k_done => k_is)
    (case a__law_door => k_is)
    (case l__law_door => k_is)
    (case c__law_door => k_is)
    (case k__law_door => k_is)
    (case a__law_counted_right => k_is)
    (case l__law_counted_right => k_is)
    (case c__law_counted_right => k_is)
    (case k__law_counted_right => k_is)
    (case a__law_bad_calendar => k_is)
    (case l__law_bad_calendar => k_is)
    (case c__law_bad_calendar => k_is)
    (case k__law_bad_calendar => k_is)
    (case a__law_copy => k_is)
    (case l__law_copy => k_is)
    (case c__law_copy => k_is)
    (case k__law_copy => k_is)
    (case a__law_is_int => k_is)
    (case l__law_is_int => k_is)
    (case c__law_is_int => k_is)
    (case k__law_is_int => k_is)
    (case a__law_is_calendar => k_is)
    (case l__law_is_calendar => k_is)
    (case c__law_is_calendar => k_is)
    (case k__law_is_calendar => k_is)
    (case a__law_grown => k_is)
    (case l__law_grown => k_is)
    (case c__law_grown => k_is)
    (case k__law_grown => k_is)
    (case a__law_refused_right => k_is)
    (case l__law_refused_right => k_is)
    (case c__law_refused_right => k_is)
    (case k__law_refused_right => k_is)
    (case a__law_tests_right => k_is)
    (case l__law_tests_right => k_is)
    (case c__law_tests_right => k_is)
    (case k__law_tests_right => k_is)
    (case a__law_worked => k_is)
    (case l__law_worked => k_is)
    (case c__law_worked => k_is)
    (case k__law_worked => k_is)
    (case a__law_done => k_is)
    (case l__law_done => k_is)
    (case c__law_done => k_is)
    (case k__law_done => k_is)
    (case a__law_begun => k_is)
    (case l__law_begun => k_is)
    (case c__law_begun => k_is)
    (case k__law_begun => k_is)
    (case a__law_due => k_is)
    (case l__law_due => k_is)
    (case c__law_due => k_is)
    (case k__law_due => k_is)
    (case a__law_great_right => k_is)
    (case l__law_great_right => k_is)
    (case c__law_great_right => k_is)
    (case k__law_great_right => k_is)
    (case a_law => k_is)
    (case l_law => k_is)
    (case c_law => k_is)
    (case k_law => k_is)
    (case z_abs => k_is)
    (case z_all => k_is)
    (case z_bool => k_is)
    (case z_dict => k_is)
    (case z_enumerate => k_is)
    (case z_int => k_is)
    (case z_isinstance => k_is)
    (case z_len => k_is)
    (case z_list => k_is)
    (case z_max => k_is)
    (case z_min => k_is)
    (case z_range => k_is)
    (case z_repr => k_is)
    (case z_str => k_is)
    (case z_sum => k_is)
    (case z_tuple => k_is)
    (case v_MOST_DAYS => k_is)
    (case aC_InvalidCalendars => k_is)
    (case ex_InvalidCalendars => k_is)
    (case ty_InvalidCalendars => k_is)
    (case hd_InvalidCalendars => k_is)
    (case aC_InvalidDuration => k_is)
    (case ex_InvalidDuration => k_is)
    (case ty_InvalidDuration => k_is)
    (case hd_InvalidDuration => k_is)
    (case aC_InvalidEnd => k_is)
    (case ex_InvalidEnd => k_is)
    (case ty_InvalidEnd => k_is)
    (case hd_InvalidEnd => k_is)
    (case aC_InvalidStart => k_is)
    (case ex_InvalidStart => k_is)
    (case ty_InvalidStart => k_is)
    (case hd_InvalidStart => k_is)
    (case aC_PlanError => k_is)
    (case ex_PlanError => k_is)
    (case ty_PlanError => k_is)
    (case hd_PlanError => k_is)
    (case lC_InvalidCalendars => k_is)
    (case qC_InvalidCalendars => rfl)
    (case sa_InvalidCalendars => k_is)
    (case kC_InvalidCalendars => k_is)
    (case no_InvalidCalendars => k_is)
    (case in_InvalidCalendars => k_is)
    (case it_InvalidCalendars => k_is)
    (case lI_InvalidCalendars => k_is)
    (case cI_InvalidCalendars => k_is)
    (case kI2_InvalidCalendars => k_is)
    (case ga_InvalidCalendars => k_is)
    (case gg_InvalidCalendars => k_is)
    (case cl_InvalidCalendars => k_is)
    (case mr_InvalidCalendars => k_is)
    (case su_InvalidCalendars_InvalidCalendars => k_is)
    (case su_InvalidCalendars_InvalidDuration => k_is)
    (case su_InvalidCalendars_InvalidEnd => k_is)
    (case su_InvalidCalendars_InvalidStart => k_is)
    (case su_InvalidCalendars_PlanError => k_is)
    (case lC_InvalidDuration => k_is)
    (case qC_InvalidDuration => rfl)
    (case sa_InvalidDuration => k_is)
    (case kC_InvalidDuration => k_is)
    (case no_InvalidDuration => k_is)
    (case in_InvalidDuration => k_is)
    (case it_InvalidDuration => k_is)
    (case lI_InvalidDuration => k_is)
    (case cI_InvalidDuration => k_is)
    (case kI2_InvalidDuration => k_is)
    (case ga_InvalidDuration => k_is)
    (case gg_InvalidDuration => k_is)
    (case cl_InvalidDuration => k_is)
    (case mr_InvalidDuration => k_is)
    (case su_InvalidDuration_InvalidCalendars => k_is)
    (case su_InvalidDuration_InvalidDuration => k_is)
    (case su_InvalidDuration_InvalidEnd => k_is)
    (case su_InvalidDuration_InvalidStart => k_is)
    (case su_InvalidDuration_PlanError => k_is)
    (case lC_InvalidEnd => k_is)
    (case qC_InvalidEnd => rfl)
    (case sa_InvalidEnd => k_is)
    (case kC_InvalidEnd => k_is)
    (case no_InvalidEnd => k_is)
    (case in_InvalidEnd => k_is)
    (case it_InvalidEnd => k_is)
    (case lI_InvalidEnd => k_is)
    (case cI_InvalidEnd => k_is)
    (case kI2_InvalidEnd => k_is)
    (case ga_InvalidEnd => k_is)
    (case gg_InvalidEnd => k_is)
    (case cl_InvalidEnd => k_is)
    (case mr_InvalidEnd => k_is)
    (case su_InvalidEnd_InvalidCalendars => k_is)
    (case su_InvalidEnd_InvalidDuration => k_is)
    (case su_InvalidEnd_InvalidEnd => k_is)
    (case su_InvalidEnd_InvalidStart => k_is)
    (case su_InvalidEnd_PlanError => k_is)
    (case lC_InvalidStart => k_is)
    (case qC_InvalidStart => rfl)
    (case sa_InvalidStart => k_is)
    (case kC_InvalidStart => k_is)
    (case no_InvalidStart => k_is)
    (case in_InvalidStart => k_is)
    (case it_InvalidStart => k_is)
    (case lI_InvalidStart => k_is)
    (case cI_InvalidStart => k_is)
    (case kI2_InvalidStart => k_is)
    (case ga_InvalidStart => k_is)
    (case gg_InvalidStart => k_is)
    (case cl_InvalidStart => k_is)
    (case mr_InvalidStart => k_is)
    (case su_InvalidStart_InvalidCalendars => k_is)
    (case su_InvalidStart_InvalidDuration => k_is)
    (case su_InvalidStart_InvalidEnd => k_is)
    (case su_InvalidStart_InvalidStart => k_is)
    (case su_InvalidStart_PlanError => k_is)
    (case g1_PlanError => k_is)
    (case g2_PlanError => k_is)
    (case g3_PlanError => k_is)
    (case dn => k_is)
    (case dt => k_is)

