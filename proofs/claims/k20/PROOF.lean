import PyProof.Rows.All
import Wide.All
import OpenK.AllK
import Wide.FinOn
import HandS.ForList
import PySem.Str
import HandS.ForMost
import HandS.ForExc
import HandS.Wide
import HandS.Evl
import HandS.IsInst
import HandS.ExcIs
import HandS.Conv
import HandS.TupAny
import HandS.EndBits
import HandS.SortKw
import HandS.CallSlots
import HandS.ReCall
import KE.DataMinMax
import PyProof.SeqIndex
import KE.GoesEnum
import KE.OsGo
import PySem.Challenge.RW_kindsoftables_k20_colours_and_decreasing
set_option Elab.async false
set_option linter.all false
set_option autoImplicit false
set_option maxRecDepth 1000000
/-! DpCore: what pure pieces of Python denote: plain functions over trees of data. No heap here. -/
namespace DP
open PySem

/-- data: trees -/
inductive D where
  | non
  | bl (b : Bool)
  | int (i : Int)
  | str (s : Str)
  | tup (xs : List D)
  | lst (xs : List D)
  | scr (xs : List D)
  | dK (kvs : List (Sum Int Str × D))
  | dT (kvs : List (List (Sum Int Str) × D))
  | ins (c : Str) (fs : List (Str × D))
  deriving Inhabited

/-- what a name holds: nothing; data that is shared; a list or dict of its own; an exception that a suite holds -/
inductive Slot where
  | no
  | sh (d : D)
  | ow (d : D)
  | ex (c : Str) (fs : List D)
abbrev Env := List Slot

/-- what an expression gives: data, new data that nothing else holds, the own object of a slot -/
inductive Opd where
  | val (d : D)
  | fresh (d : D)
  | own (i : Nat)

/-- the end of a piece -/
inductive R (α : Type) where
  | ok (a : α) (Γ : Env)
  | exc (c : Str) (fs : List D) (Γ : Env)
  | stuck

def R.bind {α β : Type} (r : R α) (k : α → Env → R β) : R β :=
  match r with
  | .ok a Γ => k a Γ
  | .exc c fs Γ => .exc c fs Γ
  | .stuck => .stuck
@[simp] theorem R.bind_ok {α β : Type} (a : α) (Γ : Env) (k : α → Env → R β) : (R.ok a Γ).bind k = k a Γ := rfl
@[simp] theorem R.bind_exc {α β : Type} (c : Str) (fs : List D) (Γ : Env) (k : α → Env → R β) : (R.exc c fs Γ : R α).bind k = .exc c fs Γ := rfl
@[simp] theorem R.bind_stuck {α β : Type} (k : α → Env → R β) : (R.stuck : R α).bind k = .stuck := rfl

abbrev E := Env → R Opd
abbrev T := Env → R Bool
abbrev As := Env → R (List Opd)
abbrev It := Env → R (List D)

/-- the end of a statement -/
inductive SR where
  | next (Γ : Env)
  | ret (d : D)
  | brk (Γ : Env)
  | cont (Γ : Env)
  | exc (c : Str) (fs : List D) (Γ : Env)
  | stuck
abbrev S := Env → SR

/-- the end of a call -/
inductive Res where
  | ok (d : D)
  | exc (c : Str) (fs : List D)
  | stuck
abbrev Fn := List D → Res

def slotD : Option Slot → Option D
  | some (.sh d) => some d
  | some (.ow d) => some d
  | _ => none
def Opd.get (Γ : Env) : Opd → Option D
  | .val d => some d
  | .fresh d => some d
  | .own i => slotD Γ[i]?
/-- the data of what is no slot's own -/
def Opd.str : Opd → Option D
  | .val d => some d
  | .fresh d => some d
  | .own _ => none
def Opd.isOwn : Opd → Bool
  | .own _ => true
  | _ => false
def gets (Γ : Env) : List Opd → Option (List D)
  | [] => some []
  | o :: r => match o.get Γ, gets Γ r with
    | some d, some ds =>
        some (d :: ds)
    | _, _ => none
def strsD : List Opd → Option (List D)
  | [] => some []
  | o :: r => match o.str, strsD r with
    | some d, some ds =>
        some (d :: ds)
    | _, _ => none

mutual
/-- no list, no dict within -/
def noMut : D → Bool
  | .tup xs => noMuts xs
  | .lst _ => false
  | .scr _ => false
  | .dK _ => false
  | .dT _ => false
  | .ins _ fs => noMutF fs
  | _ => true
def noMuts : List D → Bool
  | [] => true
  | d :: r => noMut d && noMuts r
def noMutF : List (Str × D) → Bool
  | [] => true
  | (_, d) :: r => noMut d && noMutF r
end

def opt {α : Type} (o : Option α) (Γ : Env) : R α := match o with
  | some a => .ok a Γ
  | none => .stuck
@[simp] theorem opt_some {α : Type} (a : α) (Γ : Env) : opt (some a) Γ = .ok a Γ := rfl
@[simp] theorem opt_none {α : Type} (Γ : Env) : opt (none : Option α) Γ = .stuck := rfl

/-! ### expressions -/
def eV (i : Nat) : E := fun Γ => match Γ[i]? with
  | some (.sh d) => .ok (.val d) Γ
  | some (.ow _) => .ok (.own i) Γ
  | _ => .stuck
def eC (d : D) : E := fun Γ => .ok (.val d) Γ
def eBin (f : D → D → Option Opd) (a b : E) : E := fun Γ =>
  (a Γ).bind fun x Γ1 => (b Γ1).bind fun y Γ2 => match x.get Γ2, y.get Γ2 with
    | some dx, some dy => opt (f dx dy) Γ2
    | _, _ => .stuck
def eUn (f : D → Option Opd) (a : E) : E := fun Γ =>
  (a Γ).bind fun x Γ1 => match x.get Γ1 with
    | some dx => opt (f dx) Γ1
    | none => .stuck
/-- a < b < c: the second comparison is asked if the first holds -/
def eChain (f g : D → D → Option Opd) (a b c : E) : E := fun Γ =>
  (a Γ).bind fun x Γ1 => (b Γ1).bind fun y Γ2 => match x.str, y.str with
    | some dx, some dy => match f dx dy with
      | some (.val (.bl true)) => (c Γ2).bind fun z Γ3 => match z.get Γ3 with
        | some dz => opt (g dy dz) Γ3
        | none => .stuck
      | some (.val (.bl false)) => .ok (.val (.bl false)) Γ2
      | _ => .stuck
    | _, _ => .stuck
def aNil : As := fun Γ => .ok [] Γ
def aCons (a : E) (r : As) : As := fun Γ => (a Γ).bind fun x Γ1 => (r Γ1).bind fun xs Γ2 => .ok (x :: xs) Γ2
/-- a built-in called by values -/
def eCB (f : List D → Option Opd) (t : As) : E := fun Γ =>
  (t Γ).bind fun os Γ1 => match gets Γ1 os with
    | some ds => opt (f ds) Γ1
    | none => .stuck
/-- a def of the text -/
def callR (f : Fn) (os : List Opd) (Γ : Env) : R Opd := match gets Γ os with
  | some ds => match f ds with
    | .ok d => if os.any Opd.isOwn then (if noMut d then .ok (.val d) Γ else .stuck) else .ok (.val d) Γ
    | .exc c fs => if fs.isEmpty || !os.any Opd.isOwn || noMuts fs then .exc c fs Γ else .stuck
    | .stuck => .stuck
  | none => .stuck
def eCall (f : Fn) (t : As) : E := fun Γ => (t Γ).bind fun os Γ1 => callR f os Γ1
def eTup (t : As) : E := fun Γ => (t Γ).bind fun os Γ1 => match strsD os with
  | some ds => if ds.length ≤ 1000000 then .ok (.val (.tup ds)) Γ1 else .stuck
  | none => .stuck
def eLst (t : As) : E := fun Γ => (t Γ).bind fun os Γ1 => match strsD os with
  | some ds => if ds.length ≤ 1000000 then .ok (.fresh (.lst ds)) Γ1 else .stuck
  | none => .stuck
def eIf (c : T) (a b : E) : E := fun Γ => (c Γ).bind fun k Γ1 => if k = true then a Γ1 else b Γ1
/-- and, or, not of truth values -/
def eAnd (a b : E) : E := fun Γ => (a Γ).bind fun x Γ1 => match x with
  | .val (.bl true) => b Γ1
  | .val (.bl false) => .ok (.val (.bl false)) Γ1
  | _ => .stuck
def eOr (a b : E) : E := fun Γ => (a Γ).bind fun x Γ1 => match x with
  | .val (.bl true) => .ok (.val (.bl true)) Γ1
  | .val (.bl false) => b Γ1
  | _ => .stuck
def eNot (a : E) : E := fun Γ => (a Γ).bind fun x Γ1 => match x with
  | .val (.bl k) => .ok (.val (.bl !k)) Γ1
  | _ => .stuck
/-- a method that changes the own list of slot i: the list, the arguments, what comes out, the list behind it -/
def eMut (f : D → List D → Option (D × D)) (i : Nat) (t : As) : E := fun Γ =>
  match Γ[i]? with
  | some (.ow _) => (t Γ).bind fun os Γ1 => match strsD os, Γ1[i]? with
    | some ds, some (.ow d) => match f d ds with
      | some (v, d') => .ok (.val v) (Γ1.set i (.ow d'))
      | none => .stuck
    | _, _ => .stuck
  | _ => .stuck
/-- a method of a tuple -/
def eMtT (f : List D → List D → Option Opd) (a : E) (t : As) : E := fun Γ =>
  (a Γ).bind fun x Γ1 => match x.str with
    | some (.tup xs) => (t Γ1).bind fun os Γ2 => match gets Γ2 os with
      | some ds => opt (f xs ds) Γ2
      | none => .stuck
    | _ => .stuck
/-- an optional part of a slice -/
def pNo : Env → R (Option Int) := fun Γ => .ok none Γ
def pE (a : E) : Env → R (Option Int) := fun Γ => (a Γ).bind fun x Γ1 => match x with
  | .val (.int i) => .ok (some i) Γ1
  | _ => .stuck
def eSl (f : D → Option Int → Option Int → Option Opd) (a : E) (lo hi : Env → R (Option Int)) : E := fun Γ =>
  (a Γ).bind fun x Γ1 => (lo Γ1).bind fun l Γ2 => (hi Γ2).bind fun h Γ3 => match x.get Γ3 with
    | some dx => opt (f dx l h) Γ3
    | none => .stuck
/-- list(range(..)), tuple(range(..)) -/
def eRg (f : Int → Int → Option Opd) (a b : E) : E := fun Γ =>
  (a Γ).bind fun x Γ1 => (b Γ1).bind fun y Γ2 => match x, y with
    | .val (.int i), .val (.int j) => opt (f i j) Γ2
    | _, _ => .stuck

/-! ### tests -/
/-- the truth of data -/
def truth : D → Option Bool
  | .non => some false
  | .bl b => some b
  | .int i => some (i != 0)
  | .str s => if s.length ≤ 1000000 then some (s.length != 0) else none
  | .tup xs => some (!xs.isEmpty)
  | .lst xs => some (!xs.isEmpty)
  | .scr _ => none
  | .dK kvs => some (!kvs.isEmpty)
  | .dT kvs => some (!kvs.isEmpty)
  | .ins _ _ => none
def tE (a : E) : T := fun Γ => (a Γ).bind fun x Γ1 => match x with
  | .val (.bl k) => .ok k Γ1
  | _ => .stuck
def tTru (a : E) : T := fun Γ => (a Γ).bind fun x Γ1 => match x.get Γ1 with
  | some d => opt (truth d) Γ1
  | none => .stuck
def tAnd (a b : T) : T := fun Γ => (a Γ).bind fun k Γ1 => if k = true then b Γ1 else .ok false Γ1
def tOr (a b : T) : T := fun Γ => (a Γ).bind fun k Γ1 => if k = true then .ok true Γ1 else b Γ1
def tNot (a : T) : T := fun Γ => (a Γ).bind fun k Γ1 => .ok (!k) Γ1
def tYes : T := fun Γ => .ok true Γ

/-! ### what is walked -/
def items : D → Option (List D)
  | .lst xs => some xs
  | .scr xs => some xs
  | .tup xs => some xs
  | _ => none
/-- a list or tuple; a slot's own one is shared from then on -/
def freeze (Γ : Env) : Opd → Env
  | .own i => match Γ[i]? with
    | some (.ow d) => Γ.set i (.sh d)
    | _ => Γ
  | _ => Γ
def iE (a : E) : It := fun Γ => (a Γ).bind fun x Γ1 => match x.get Γ1 with
  | some d => match items d with
    | some xs => .ok xs (freeze Γ1 x)
    | none => .stuck
  | none => .stuck
def zInts (lo : Int) : Nat → List D
  | 0 => []
  | n + 1 => D.int lo :: zInts (lo + 1) n
def stepInts (lo c : Int) : Nat → List D
  | 0 => []
  | n + 1 => D.int lo :: stepInts (lo + c) c n
def inLine (i : Int) : Bool := decide (-(2 ^ 62) ≤ i) && decide (i < 2 ^ 62)
def iR1 (a : E) : It := fun Γ => (a Γ).bind fun x Γ1 => match x with
  | .val (.int j) => if inLine j then .ok (zInts 0 j.toNat) Γ1 else .stuck
  | _ => .stuck
def iR2 (a b : E) : It := fun Γ => (a Γ).bind fun x Γ1 => (b Γ1).bind fun y Γ2 => match x, y with
  | .val (.int i), .val (.int j) => if inLine i && inLine j then .ok (zInts i (j - i).toNat) Γ2 else .stuck
  | _, _ => .stuck
/-- range(a, b, -1) -/
def iRd (a b : E) : It := fun Γ => (a Γ).bind fun x Γ1 => (b Γ1).bind fun y Γ2 => match x, y with
  | .val (.int i), .val (.int j) => if inLine i && inLine j then .ok (stepInts i (-1) (i - j).toNat) Γ2 else .stuck
  | _, _ => .stuck
def enumD (n : Int) : List D → List D
  | [] => []
  | d :: r => .tup [.int n, d] :: enumD (n + 1) r
def iEnum (a : E) : It := fun Γ => (a Γ).bind fun x Γ1 => match x.get Γ1 with
  | some d => match items d with
    | some xs => .ok (enumD 0 xs) (freeze Γ1 x)
    | none => .stuck
  | none => .stuck

/-! ### targets -/
abbrev Tg := D → Env → Option Env
def gN (i : Nat) : Tg := fun d Γ => some (Γ.set i (.sh d))
def gs : List Nat → List D → Env → Option Env
  | [], [], Γ => some Γ
  | i :: r, d :: ds, Γ => gs r ds (Γ.set i (.sh d))
  | _, _, _ => none
def gT (js : List Nat) : Tg := fun d Γ => match d with
  | .tup ds => gs js ds Γ
  | _ => none

/-! ### comprehensions -/
def wipe (Γ : Env) : List Nat → Env
  | [] => Γ
  | v :: vs => (wipe Γ vs).set v .no
def lcLoop (vs : List Nat) (tg : Tg) (c : T) (e : E) : List D → Env → List D → Option (List D × Env)
  | [], Γ, acc => some (acc, Γ)
  | d :: r, Γ, acc => match tg d Γ with
    | none => none
    | some Γ1 => match c Γ1 with
      | .ok true Γ2 => match e Γ2 with
        | .ok o Γ3 => match o.str with
          | some x => if acc.length < 1000000 then lcLoop vs tg c e r (wipe Γ3 vs) (acc ++ [x]) else none
          | none => none
        | _ => none
      | .ok false Γ2 => lcLoop vs tg c e r (wipe Γ2 vs) acc
      | _ => none
def eLc (vs : List Nat) (it : It) (tg : Tg) (c : T) (e : E) : E := fun Γ =>
  (it Γ).bind fun xs Γ1 => match lcLoop vs tg c e xs (wipe Γ1 vs) [] with
    | some (ds, Γ2) => .ok (.fresh (.lst ds)) Γ2
    | none => .stuck

/-! ### statements -/
def sNext : S := fun Γ => .next Γ
def sSeq (a b : S) : S := fun Γ => match a Γ with
  | .next Γ1 => b Γ1
  | r => r
def R.toS (r : R Opd) (k : Opd → Env → SR) : SR := match r with
  | .ok o Γ => k o Γ
  | .exc c fs Γ => .exc c fs Γ
  | .stuck => .stuck
def R.toSB {α : Type} (r : R α) (k : α → Env → SR) : SR := match r with
  | .ok o Γ => k o Γ
  | .exc c fs Γ => .exc c fs Γ
  | .stuck => .stuck
def setR (i : Nat) (o : Opd) (Γ1 : Env) : SR := match o with
  | .val d => .next (Γ1.set i (.sh d))
  | .fresh d => .next (Γ1.set i (.ow d))
  | .own _ => .stuck
def sSet (i : Nat) (e : E) : S := fun Γ => (e Γ).toSB (setR i)
def sTg (tg : Tg) (e : E) : S := fun Γ => (e Γ).toSB fun o Γ1 => match o.str with
  | some d => match tg d Γ1 with
    | some Γ2 => .next Γ2
    | none => .stuck
  | none => .stuck
def sDrop (e : E) : S := fun Γ => (e Γ).toSB fun _ Γ1 => .next Γ1
def sRet (e : E) : S := fun Γ => (e Γ).toSB fun o Γ1 => match o.get Γ1 with
  | some d => .ret d
  | none => .stuck
def sRetN : S := fun _ => .ret .non
def sIf (c : T) (a b : S) : S := fun Γ => (c Γ).toSB fun k Γ1 => if k = true then a Γ1 else b Γ1
def sBrk : S := fun Γ => .brk Γ
def sCont : S := fun Γ => .cont Γ
def sNever : S := fun _ => .stuck
/-- raise C(text) -/
def sRaise (c : Str) : S := fun Γ => .exc c [] Γ
/-- x[i] = v of the own list of slot l -/
def sPut (f : D → D → D → Option D) (l : Nat) (ix e : E) : S := fun Γ => (e Γ).toSB fun o Γ1 => match o.str with
  | some v => match Γ1[l]? with
    | some (.ow _) => (ix Γ1).toSB fun oi Γ2 => match oi, Γ2[l]? with
      | .val i, some (.ow d) => match f d i v with
        | some d' => .next (Γ2.set l (.ow d'))
        | none => .stuck
      | _, _ => .stuck
    | _ => .stuck
  | none => .stuck
def forLoop (tg : Tg) (b : S) : List D → Env → SR
  | [], Γ => .next Γ
  | d :: r, Γ => match tg d Γ with
    | none => .stuck
    | some Γ1 => match b Γ1 with
      | .next Γ2 => forLoop tg b r Γ2
      | .cont Γ2 => forLoop tg b r Γ2
      | .brk Γ2 => .next Γ2
      | .ret d => .ret d
      | .exc c fs Γ2 => .exc c fs Γ2
      | .stuck => .stuck
def sFor (it : It) (tg : Tg) (b : S) : S := fun Γ => (it Γ).toSB fun xs Γ1 => forLoop tg b xs Γ1
def whileLoop (c : T) (b : S) : Nat → Env → SR
  | 0, _ => .stuck
  | n + 1, Γ => (c Γ).toSB fun k Γ1 => if k = true then (match b Γ1 with
      | .next Γ2 => whileLoop c b n Γ2
      | .cont Γ2 => whileLoop c b n Γ2
      | .brk Γ2 => .next Γ2
      | .ret d => .ret d
      | .exc c fs Γ2 => .exc c fs Γ2
      | .stuck => .stuck) else .next Γ1
def sWhile (n : Nat) (c : T) (b : S) : S := whileLoop c b n
/-- behind a suite: no exception is held -/
def unSlot : Slot → Slot
  | .ex _ _ => .no
  | s => s
def unEx (j : Nat) (Γ : Env) : Env := (Γ.set j .no).map unSlot
/-- try: b / except X as slot j: su; sub tells of a class whether X catches it -/
def sTry (sub : Str → Option Bool) (j : Nat) (b su : S) : S := fun Γ => match b Γ with
  | .exc c fs Γ1 => match sub c with
    | some true => (match su (Γ1.set j (.ex c fs)) with
        | .next Γ2 => .next (unEx j Γ2)
        | .brk Γ2 => .brk (unEx j Γ2)
        | .cont Γ2 => .cont (unEx j Γ2)
        | .ret d => .ret d
        | _ => .stuck)
    | some false => .exc c fs Γ1
    | none => .stuck
  | r => r
/-- isinstance of the exception in slot i -/
def eIsX (sub : Str → Option Bool) (i : Nat) : E := fun Γ => match Γ[i]? with
  | some (.ex c _) => match sub c with
    | some b => .ok (.val (.bl b)) Γ
    | none => .stuck
  | _ => .stuck

/-! ### a def -/
def startEnv (n : Nat) (ds : List D) : Env := ds.map Slot.sh ++ List.replicate (n - ds.length) .no
/-- n names in all, a body -/
def runDef (np n : Nat) (b : S) : Fn := fun ds => if ds.length = np then (match b (startEnv n ds) with
  | .next _ => .ok .non
  | .ret d => .ok d
  | .exc c fs _ => .exc c fs
  | _ => .stuck) else .stuck

/-! ### operators by data -/
def ov (d : D) : Option Opd := some (.val d)
def of (d : D) : Option Opd := some (.fresh d)
def addF : D → D → Option Opd
  | .int i, .int j => ov (.int (i + j))
  | .lst xs, .lst ys => if xs.length + ys.length ≤ 1000000 then of (.lst (xs ++ ys)) else none
  | .tup xs, .tup ys => if xs.length + ys.length ≤ 1000000 then ov (.tup (xs ++ ys)) else none
  | .str x, .str y => if x.length + y.length ≤ 1000000 then ov (.str (x ++ y)) else none
  | _, _ => none
def subF : D → D → Option Opd
  | .int i, .int j => ov (.int (i - j))
  | _, _ => none
/-- together below a million bits -/
def mulOk (i j : Int) : Bool := decide (i.natAbs.log2 + j.natAbs.log2 < 1000000)
def mulF : D → D → Option Opd
  | .int i, .int j => if mulOk i j then ov (.int (i * j)) else none
  | _, _ => none
def fdivF : D → D → Option Opd
  | .int i, .int j => if decide (0 < j) && decide (j.natAbs.log2 < 9000) then ov (.int (i / j)) else none
  | _, _ => none
def modF : D → D → Option Opd
  | .int i, .int j => if 0 < j then ov (.int (i % j)) else none
  | _, _ => none
def powF : D → D → Option Opd
  | .int i, .int j => if decide (0 ≤ j) && decide (j ≤ 1000000) && decide (i.natAbs < 2 ^ 64) then ov (.int (i ^ j.toNat)) else none
  | _, _ => none
def negF : D → Option Opd
  | .int i => ov (.int (-i))
  | _ => none
def ltF : D → D → Option Opd
  | .int i, .int j => ov (.bl (decide (i < j)))
  | _, _ => none
def leF : D → D → Option Opd
  | .int i, .int j => ov (.bl (decide (i ≤ j)))
  | _, _ => none
def gtF : D → D → Option Opd
  | .int i, .int j => ov (.bl (decide (j < i)))
  | _, _ => none
def geF : D → D → Option Opd
  | .int i, .int j => ov (.bl (decide (j ≤ i)))
  | _, _ => none
mutual
def eqD : D → D → Bool
  | .non, .non => true
  | .bl a, .bl b => a == b
  | .bl a, .int j => (if a then 1 else 0) == j
  | .int i, .bl b => i == (if b then 1 else 0)
  | .int i, .int j => i == j
  | .str x, .str y => x == y
  | .tup xs, .tup ys => eqDs xs ys
  | .lst xs, .lst ys => eqDs xs ys
  | _, _ => false
def eqDs : List D → List D → Bool
  | [], [] => true
  | x :: xs, y :: ys => eqD x y && eqDs xs ys
  | _, _ => false
end
mutual
/-- data that == compares by itself: no dict, no instance, not too deep -/
def plain : Nat → D → Bool
  | _, .non => true
  | _, .bl _ => true
  | _, .int _ => true
  | _, .str s => s.cps.all fun c => decide (c < 1114112)
  | 0, .tup _ => false
  | n + 1, .tup xs => plains n xs
  | 0, .lst _ => false
  | n + 1, .lst xs => plains n xs
  | _, _ => false
def plains : Nat → List D → Bool
  | _, [] => true
  | n, x :: xs => plain n x && plains n xs
end
def eqF : D → D → Option Opd := fun x y => if plain 20 x && plain 20 y then ov (.bl (eqD x y)) else none
def neF : D → D → Option Opd := fun x y => if plain 20 x && plain 20 y then ov (.bl (!eqD x y)) else none
def flat : D → Bool
  | .non => true
  | .bl _ => true
  | .int _ => true
  | .str _ => true
  | _ => false
def inF : D → D → Option Opd
  | x, .tup ys => if flat x && ys.all flat then ov (.bl (ys.any fun y => eqD y x)) else none
  | x, .lst ys => if flat x && ys.all flat then ov (.bl (ys.any fun y => eqD y x)) else none
  | _, _ => none
def notInF : D → D → Option Opd
  | x, .tup ys => if flat x && ys.all flat then ov (.bl (!ys.any fun y => eqD y x)) else none
  | x, .lst ys => if flat x && ys.all flat then ov (.bl (!ys.any fun y => eqD y x)) else none
  | _, _ => none
def isNon : D → Bool
  | .non => true
  | _ => false
def isNF : D → Option Opd := fun x => ov (.bl (isNon x))
def isNotNF : D → Option Opd := fun x => ov (.bl (!isNon x))
/-- xs[i] -/
def ixD (xs : List D) (i : Int) : Option D := if 0 ≤ i then (if i < xs.length then xs[i.toNat]? else none) else if -(xs.length : Int) ≤ i then xs[(i + xs.length).toNat]? else none
def ixF : D → D → Option Opd
  | .lst xs, .int i => (ixD xs i).map .val
  | .scr xs, .int i => (ixD xs i).map .val
  | .tup xs, .int i => (ixD xs i).map .val
  | _, _ => none
def sIx (n d : Nat)
    : Option Int → Nat
  | none => d
  | some v =>
      if v < 0 then (v + (n : Int)).toNat else min v.toNat n
def cut {α : Type} (xs : List α) (lo hi : Option Int) : List α := (xs.drop (sIx xs.length 0 lo)).take (sIx xs.length xs.length hi - sIx xs.length 0 lo)
def slF : D → Option Int → Option Int → Option Opd
  | .lst xs, lo, hi => of (.lst (cut xs lo hi))
  | .tup xs, lo, hi => ov (.tup (cut xs lo hi))
  | _, _, _ => none
/-! ### built-ins by data -/
def lenF : List D → Option Opd
  | [.lst xs] => ov (.int xs.length)
  | [.scr xs] => ov (.int xs.length)
  | [.tup xs] => ov (.int xs.length)
  | _ => none
def absF : List D → Option Opd
  | [.int i] => ov (.int (if i < 0 then -i else i))
  | _ => none
def intF : List D → Option Opd
  | [.int i] => ov (.int i)
  | [.bl k] => ov (.int (if k then 1 else 0))
  | _ => none
def listF : List D → Option Opd
  | [.lst xs] => of (.lst xs)
  | [.tup xs] => of (.lst xs)
  | _ => none
def tupleF : List D → Option Opd
  | [.lst xs] => ov (.tup xs)
  | [.tup xs] => ov (.tup xs)
  | _ => none
/-- all ints -/
def intsOf : List D → Option (List Int)
  | [] => some []
  | .int i :: r => (intsOf r).map (i :: ·)
  | _ => none
def maxI : Int → List Int → Int
  | m, [] => m
  | m, x :: r => maxI (if m < x then x else m) r
def maxF : List D → Option Opd
  | [.lst xs] => match intsOf xs with
    | some (x :: r) => ov (.int (maxI x r))
    | _ => none
  | _ => none
/-- max(xs, default=k) -/
def maxDF : D → D → Option Opd
  | .lst xs, k => match intsOf xs with
    | some (x :: r) => ov (.int (maxI x r))
    | some [] => if flat k then ov k else none
    | _ => none
  | .tup xs, k => match intsOf xs with
    | some (x :: r) => ov (.int (maxI x r))
    | some [] => if flat k then ov k else none
    | _ => none
  | _, _ => none
def rgOk (a b : Int) : Bool := inLine a && inLine b && decide (b - a ≤ 1000000)
def listRgF (a b : Int) : Option Opd := if rgOk a b then of (.lst (zInts a (b - a).toNat)) else none
def tupRgF (a b : Int) : Option Opd := if rgOk a b then ov (.tup (zInts a (b - a).toNat)) else none
/-- tuple(range(a, b, -1)) -/
def tupRdF (a b : Int) : Option Opd := if rgOk b a then ov (.tup (stepInts a (-1) (a - b).toNat)) else none
/-- isinstance(x, T), T a built-in class by name -/
def isTy (t : String) : D → Option Bool
  | .non => some (decide (t = "NoneType"))
  | .bl _ => some (decide (t = "bool") || decide (t = "int"))
  | .int _ => some (decide (t = "int"))
  | .str _ => some (decide (t = "str"))
  | .tup _ => some (decide (t = "tuple"))
  | .lst _ => some (decide (t = "list"))
  | .scr _ => some (decide (t = "list"))
  | .dK _ => some (decide (t = "dict"))
  | .dT _ => some (decide (t = "dict"))
  | .ins _ _ => some false
def isTyF (t : String) : D → Option Opd := fun d => (isTy t d).map fun b => .val (.bl b)
/-! ### methods by data -/
def appendM : D → List D → Option (D × D)
  | .lst xs, [y] => if xs.length < 1000000 then some (.non, .lst (xs ++ [y])) else none
  | _, _ => none
def pop0M : D → List D → Option (D × D)
  | .lst xs, [] => match xs[xs.length - 1]? with
    | some y => some (y, .lst xs.dropLast)
    | none => none
  | _, _ => none
def popAtM : D → List D → Option (D × D)
  | .lst xs, [.int i] => if decide (0 ≤ i) && decide (i < xs.length) && decide (xs.length < 1000000) then (match xs[i.toNat]? with
    | some y => some (y, .lst (xs.eraseIdx i.toNat))
    | none => none) else none
  | _, _ => none
def reverseM : D → List D → Option (D × D)
  | .lst xs, [] => some (.non, .lst xs.reverse)
  | _, _ => none
def findD (y : D) : Nat → List D → Option Nat
  | _, [] => none
  | n, x :: r => if eqD x y then some n else findD y (n + 1) r
def indexM : List D → List D → Option Opd
  | xs, [y] => if flat y && xs.all flat then (findD y 0 xs).map fun j => .val (.int (j : Nat)) else none
  | _, _ => none
end DP

/-! DpBase: when a heap holds data; what it is that a piece of text has a denotation. -/
namespace DP
open PySem L2

structure Gx where
  K : PySem.W.Frag
  mg : Str → Option Value
  χ : Option (Addr × Value)

/-- a tuple whose object is known: it has no dict -/
def TupAt (K : PySem.W.Frag) (F : Hp) (a : Addr) (xs : List V) : Prop :=
  (∃ o : Obj, F a = some (.frz o (.tup xs)) ∧ o.dict = none) ∨
    ∃ (o : Obj) (its : Array Value) (n : Nat), K.lookup a = some o ∧ o.cls = .type "tuple" ∧ o.dict = none ∧ o.data = .seq its n ∧ its.size ≤ sizeLine ∧ Vals xs its.toList
theorem TupAt.sq {K : PySem.W.Frag} {F : Hp} {a : Addr} {xs : List V} (h : TupAt K F a xs) : SqT K F a xs := by
  rcases h with ⟨o, h, _⟩ | ⟨o, its, n, h1, h2, _, h3⟩
  · exact .inl (.inr ⟨o, h⟩)
  · exact .inr ⟨o, its, n, h1, h2, h3⟩
theorem TupAt.mono {K : PySem.W.Frag} {F F' : Hp} {a : Addr} {xs : List V} (e : Same F F') (h : TupAt K F a xs) : TupAt K F' a xs := by
  rcases h with ⟨o, h, d⟩ | h
  · exact .inl ⟨o, e _ _ h, d⟩
  · exact .inr h
mutual
/-- in the part F of the heap v is the data d -/
def Rep (G : Gx) (F : Hp) : D → V → Prop
  | .non, v => v = .non
  | .bl b, v => v = .bl b
  | .int i, v => v = .int i
  | .str s, v => v = .str s
  | .tup ds, v => ∃ a xs, v = .ref a ∧ TupAt G.K F a xs ∧ Reps G F ds xs
  | .lst ds, v => ∃ a xs, v = .ref a ∧ F a = some (.lst xs) ∧ Reps G F ds xs
  | .scr ds, v => ∃ a xs, v = .ref a ∧ SqL G.K F a xs ∧ Reps G F ds xs
  | .dK _, _ => False
  | .dT _, _ => False
  | .ins _ _, _ => False
def Reps (G : Gx) (F : Hp) : List D → List V → Prop
  | [], vs => vs = []
  | d :: ds, vs => ∃ v r, vs = v :: r ∧ Rep G F d v ∧ Reps G F ds r
end

section
variable {G : Gx} {F F' : Hp}
theorem same_t {K : PySem.W.Frag} {H H' : Hp} {a : Addr} {xs : List V} (e : Same H H') (h : SqT K H a xs) : SqT K H' a xs := Evl.ex_t e h
mutual
theorem Rep.mono (e : Same F F') : ∀ {d : D} {v : V}, Rep G F d v → Rep G F' d v
  | .non, _, h => h
  | .bl _, _, h => h
  | .int _, _, h => h
  | .str _, _, h => h
  | .tup ds, _, h => by
    obtain ⟨a, xs, rfl, hs, hr⟩ := h
    exact ⟨a, xs, rfl, hs.mono e, Reps.mono e hr⟩
  | .lst ds, _, h => by
    obtain ⟨a, xs, rfl, hs, hr⟩ := h
    exact ⟨a, xs, rfl, e _ _ hs, Reps.mono e hr⟩
  | .scr ds, _, h => by
    obtain ⟨a, xs, rfl, hs, hr⟩ := h
    exact ⟨a, xs, rfl, e.seq hs, Reps.mono e hr⟩
  | .dK _, _, h => h
  | .dT _, _, h => h
  | .ins _ _, _, h => h
theorem Reps.mono (e : Same F F') : ∀ {ds : List D} {vs : List V}, Reps G F ds vs → Reps G F' ds vs
  | [], _, h => h
  | d :: ds, _, h => by
    obtain ⟨v, r, rfl, h1, h2⟩ := h
    exact ⟨v, r, rfl, Rep.mono e h1, Reps.mono e h2⟩
end
theorem Reps.length : ∀ {ds : List D} {vs : List V}, Reps G F ds vs → vs.length = ds.length
  | [], _, h => by rw [show _ = [] from h]; rfl
  | d :: ds, _, h => by
    obtain ⟨v, r, rfl, _, h2⟩ := h
    show r.length + 1 = ds.length + 1
    rw [Reps.length h2]
theorem Reps.get : ∀ {ds : List D} {vs : List V} {i : Nat} {d : D}, Reps G F ds vs → ds[i]? = some d → ∃ v, vs[i]? = some v ∧ Rep G F d v
  | [], _, i, d, _, e => by simp at e
  | d :: ds, _, 0, d', h, e => by
    obtain ⟨v, r, rfl, h1, h2⟩ := h
    have : d = d' := by simpa using e
    subst this
    exact ⟨v, rfl, h1⟩
  | d :: ds, _, i + 1, d', h, e => by
    obtain ⟨v, r, rfl, h1, h2⟩ := h
    obtain ⟨w, hw, hr⟩ := Reps.get (i := i) h2 (by simpa using e)
    exact ⟨w, by simpa using hw, hr⟩
theorem Reps.get' {ds : List D} {vs : List V} {i : Nat} {v : V} (h : Reps G F ds vs) (e : vs[i]? = some v) : ∃ d, ds[i]? = some d ∧ Rep G F d v := by
  have hi : i < vs.length := (List.getElem?_eq_some_iff.mp e).1
  have hi' : i < ds.length := by rw [← h.length]; exact hi
  obtain ⟨w, hw, hr⟩ := h.get (List.getElem?_eq_getElem hi')
  rw [e] at hw
  cases hw
  exact ⟨_, List.getElem?_eq_getElem hi', hr⟩
theorem Reps.append : ∀ {ds es : List D} {vs ws : List V}, Reps G F ds vs → Reps G F es ws → Reps G F (ds ++ es) (vs ++ ws)
  | [], _, _, _, h, k => by rw [show _ = [] from h]; exact k
  | d :: ds, es, _, ws, h, k => by
    obtain ⟨v, r, rfl, h1, h2⟩ := h
    exact ⟨v, r ++ ws, rfl, h1, Reps.append h2 k⟩
theorem Reps.one {d : D} {v : V} (h : Rep G F d v) : Reps G F [d] [v] := ⟨v, [], rfl, h, rfl⟩
theorem Reps.of {ds : List D} {vs : List V} (hl : vs.length = ds.length) (h : ∀ (i : Nat) (d : D) (v : V), ds[i]? = some d → vs[i]? = some v → Rep G F d v) : Reps G F ds vs := by
  induction ds generalizing vs with
  | nil => exact List.length_eq_zero_iff.mp hl
  | cons d ds ih =>
    cases vs with
    | nil => simp at hl
    | cons v vs =>
      refine ⟨v, vs, rfl, h 0 d v rfl rfl, ih (by simpa using hl) fun i d' v' e1 e2 => h (i + 1) d' v' (by simpa using e1) (by simpa using e2)⟩
theorem Reps.set {ds : List D} {vs : List V} {d : D} {v : V} (h : Reps G F ds vs) (r : Rep G F d v) (i : Nat) : Reps G F (ds.set i d) (vs.set i v) := by
  refine Reps.of (by rw [List.length_set, List.length_set, h.length]) fun j d' v' e1 e2 => ?_
  by_cases hj : i = j
  · subst hj
    rw [List.getElem?_set] at e1 e2
    simp only [if_true] at e1 e2
    split at e1
    · split at e2
      · cases e1; cases e2; exact r
      · cases e2
    · cases e1
  · rw [List.getElem?_set_ne hj] at e1 e2
    obtain ⟨w, hw, hr⟩ := h.get e1
    rw [e2] at hw
    cases hw
    exact hr
theorem Reps.map {ds : List D} {vs : List V} (f : D → V) (hf : vs = ds.map f) (h : ∀ d ∈ ds, Rep G F d (f d)) : Reps G F ds vs := by
  subst hf
  refine Reps.of (by simp) fun i d v e1 e2 => ?_
  rw [List.getElem?_map, e1] at e2
  cases e2
  exact h d (List.mem_of_getElem? e1)
/-- sublists by places -/
theorem Reps.pick {ds : List D} {vs : List V} (h : Reps G F ds vs) {ds' : List D} {vs' : List V} (hl : vs'.length = ds'.length) (f : Nat → Nat) (h1 : ∀ (i : Nat) (d : D), ds'[i]? = some d → ds[f i]? = some d) (h2 : ∀ (i : Nat) (v : V), vs'[i]? = some v → vs[f i]? = some v) : Reps G F ds' vs' :=
  Reps.of hl fun i d v e1 e2 => by
    obtain ⟨w, hw, hr⟩ := h.get (h1 i d e1)
    rw [h2 i v e2] at hw
    cases hw
    exact hr
theorem Reps.take {ds : List D} {vs : List V} (h : Reps G F ds vs) (n : Nat) : Reps G F (ds.take n) (vs.take n) :=
  h.pick (by simp [h.length]) id (fun i d e => by
    rw [List.getElem?_take] at e
    split at e
    · exact e
    · cases e) (fun i d e => by
    rw [List.getElem?_take] at e
    split at e
    · exact e
    · cases e)
theorem Reps.drop {ds : List D} {vs : List V} (h : Reps G F ds vs) (n : Nat) : Reps G F (ds.drop n) (vs.drop n) :=
  h.pick (by simp [h.length]) (fun i => n + i) (fun i d e => by rw [List.getElem?_drop] at e; exact e) (fun i d e => by rw [List.getElem?_drop] at e; exact e)
end

/-! ### what is shared, what is own -/
structure Ext (P F F' : Hp) : Prop where
  sub : Same F F'
  new : ∀ a o, F' a = some o → F a = some o ∨ P a = none
theorem Ext.refl (P F : Hp) : Ext P F F := ⟨Same.refl _, fun _ _ h => .inl h⟩
theorem Ext.trans {P F F' F'' : Hp} (a : Ext P F F') (b : Ext P F' F'') : Ext P F F'' := ⟨a.sub.trans b.sub, fun x o h => by
  rcases b.new x o h with h | h
  · exact a.new x o h
  · exact .inr h⟩
/-- by one address that P does not hold -/
theorem Ext.one {P F : Hp} {a : Addr} (o : HO) (hP : P a = none) (hF : F a = none) : Ext P F (upd F a o) := ⟨fun b u e => by rw [upd_ne (ne_of_none e hF)]; exact e, fun b u e => by
  by_cases hb : b = a
  · subst hb; exact .inr hP
  · rw [upd_ne hb] at e; exact .inl e⟩

def OwnAt (G : Gx) (F H : Hp) : D → Addr → Prop
  | .lst ds, a => ∃ xs, H a = some (.lst xs) ∧ Reps G F ds xs
  | _, _ => False
theorem OwnAt.mono {G : Gx} {F F' H H' : Hp} {d : D} {a : Addr} (e : Same F F') (h : H' a = H a) (o : OwnAt G F H d a) : OwnAt G F' H' d a := by
  cases d with
  | lst ds =>
    obtain ⟨xs, h1, h2⟩ := o
    exact ⟨xs, h.trans h1, h2.mono e⟩
  | _ => exact o.elim
/-- an own object is made shared -/
theorem OwnAt.some {G : Gx} {F H : Hp} {d : D} {a : Addr} (o : OwnAt G F H d a) : ∃ u, H a = some u := by
  cases d with
  | lst ds => obtain ⟨xs, h1, _⟩ := o; exact ⟨_, h1⟩
  | _ => exact o.elim
theorem OwnAt.freeze {G : Gx} {F H : Hp} {d : D} {a : Addr} {u : HO} (o : OwnAt G F H d a) (hu : H a = Option.some u) (hF : F a = none) : Rep G (upd F a u) d (.ref a) := by
  cases d with
  | lst ds =>
    obtain ⟨xs, h1, h2⟩ := o
    rw [hu] at h1
    cases h1
    exact ⟨a, xs, rfl, upd_same, h2.mono fun b u e => by rw [upd_ne (ne_of_none e hF)]; exact e⟩
  | _ => exact o.elim

def SlotOk (G : Gx) (P F H : Hp) (v : Option (Option V)) : Slot → Prop
  | .no => True
  | .sh d => ∃ x, v = some (some x) ∧ Rep G F d x
  | .ow d => ∃ a, v = some (some (.ref a)) ∧ P a = none ∧ F a = none ∧ OwnAt G F H d a
  | .ex c fs => ∃ a cls, G.χ = some (a, cls) ∧ v = some (some (.ref a)) ∧ G.mg c = some cls

structure EnvOk (G : Gx) (P F H : Hp) (σ : St) (Γ : Env) : Prop where
  pf : Same P H
  fh : Same F H
  len : Γ.length = σ.length
  slot : ∀ (i : Nat) (s : Slot), Γ[i]? = some s → SlotOk G P F H σ[i]? s
  dis : ∀ (i j : Nat) (a : Addr) (d e : D), Γ[i]? = some (.ow d) → Γ[j]? = some (.ow e) → σ[i]? = some (some (.ref a)) → σ[j]? = some (some (.ref a)) → i = j

def OpdOk (G : Gx) (P F H : Hp) (σ : St) (Γ : Env) : Opd → V → Prop
  | .val d, v => Rep G F d v
  | .fresh d, v => ∃ a, v = .ref a ∧ P a = none ∧ F a = none ∧ OwnAt G F H d a ∧ ∀ (i : Nat) (e : D), Γ[i]? = some (.ow e) → σ[i]? ≠ some (some (.ref a))
  | .own i, v => (∃ d, slotD Γ[i]? = some d) ∧ σ[i]? = some (some v)

/-- an operand that is only read -/
def WRep (G : Gx) (F H : Hp) (d : D) (v : V) : Prop := Rep G F d v ∨ ∃ a, v = .ref a ∧ OwnAt G F H d a

section
variable {G : Gx} {P F F' H H' : Hp} {σ : St} {Γ : Env}
theorem SlotOk.mono {v : Option (Option V)} {s : Slot} (h : SlotOk G P F H v s) (e : Same F F') (k : ∀ a d, s = .ow d → v = some (some (.ref a)) → F' a = none ∧ H' a = H a) : SlotOk G P F' H' v s := by
  cases s with
  | no => trivial
  | sh d => obtain ⟨x, h1, h2⟩ := h; exact ⟨x, h1, h2.mono e⟩
  | ow d =>
    obtain ⟨a, h1, h2, h3, h4⟩ := h
    obtain ⟨k1, k2⟩ := k a d rfl h1
    exact ⟨a, h1, h2, k1, h4.mono e k2⟩
  | ex c fs => exact h
/-- the heap grows, what was is as it was -/
theorem EnvOk.grow (h : EnvOk G P F H σ Γ) (e : Same H H') : EnvOk G P F H' σ Γ where
  pf := h.pf.trans e
  fh := h.fh.trans e
  len := h.len
  slot := fun i s hs => (h.slot i s hs).mono (Same.refl _) fun a d hd hv => by
    subst hd
    obtain ⟨b, h1, _, h3, h4⟩ := h.slot i _ hs
    rw [h1] at hv
    cases hv
    obtain ⟨u, hu⟩ := h4.some
    exact ⟨h3, (e _ _ hu).trans hu.symm⟩
  dis := h.dis
/-- a part of the heap that no slot owns is shared -/
theorem EnvOk.share {a : Addr} {u : HO} (h : EnvOk G P F H σ Γ) (hu : H a = some u) (hF : F a = none) (hO : ∀ (i : Nat) (e : D), Γ[i]? = some (.ow e) → σ[i]? ≠ some (some (.ref a))) : EnvOk G P (upd F a u) H σ Γ where
  pf := h.pf
  fh := fun b o e => by
    by_cases hb : b = a
    · subst hb; rw [upd_same] at e; cases e; exact hu
    · rw [upd_ne hb] at e; exact h.fh b o e
  len := h.len
  slot := fun i s hs => (h.slot i s hs).mono (fun b o e => by rw [upd_ne (ne_of_none e hF)]; exact e) fun b d hd hv => by
    subst hd
    obtain ⟨c, h1, _, h3, _⟩ := h.slot i _ hs
    have hv' := hv
    rw [h1] at hv
    cases hv
    have hne : b ≠ a := fun z => hO i d hs (by rw [← z]; exact hv')
    exact ⟨by rw [upd_ne hne]; exact h3, rfl⟩
  dis := h.dis
theorem EnvOk.fresh_none (h : EnvOk G P F H σ Γ) {a : Addr} (hn : H a = none) : F a = none ∧ P a = none := ⟨h.fh.free hn, h.pf.free hn⟩
/-- a new object -/
theorem EnvOk.new {a : Addr} {u : HO} (h : EnvOk G P F H σ Γ) (hn : H a = none) : EnvOk G P F (upd H a u) σ Γ := h.grow fun b o e => by rw [upd_ne (ne_of_none e hn)]; exact e
theorem EnvOk.notOwn (h : EnvOk G P F H σ Γ) {a : Addr} (hn : H a = none) : ∀ (i : Nat) (e : D), Γ[i]? = some (.ow e) → σ[i]? ≠ some (some (.ref a)) := fun i e hs hv => by
  obtain ⟨b, h1, _, _, h4⟩ := h.slot i _ hs
  rw [h1] at hv
  cases hv
  obtain ⟨u, hu⟩ := h4.some
  rw [hn] at hu
  cases hu
/-- a new object that is shared at once -/
theorem EnvOk.newSh {a : Addr} {u : HO} (h : EnvOk G P F H σ Γ) (hn : H a = none) : EnvOk G P (upd F a u) (upd H a u) σ Γ ∧ Ext P F (upd F a u) :=
  ⟨(h.new hn).share upd_same (h.fresh_none hn).1 (h.notOwn hn), Ext.one u (h.fresh_none hn).2 (h.fresh_none hn).1⟩
/-- what is read -/
theorem OpdOk.read {o : Opd} {v : V} {d : D} (h : EnvOk G P F H σ Γ) (ho : OpdOk G P F H σ Γ o v) (hd : o.get Γ = some d) : WRep G F H d v := by
  cases o with
  | val d' => cases hd; exact .inl ho
  | fresh d' =>
    cases hd
    obtain ⟨a, h1, _, _, h4, _⟩ := ho
    exact .inr ⟨a, h1, h4⟩
  | own i =>
    obtain ⟨_, hv⟩ := ho
    have hd : slotD Γ[i]? = some d := hd
    cases hs : Γ[i]? with
    | none => rw [hs] at hd; cases hd
    | some s =>
      rw [hs] at hd
      cases s with
      | sh d' =>
        cases hd
        obtain ⟨x, h1, h2⟩ := h.slot i _ hs
        rw [hv] at h1
        cases h1
        exact .inl h2
      | ow d' =>
        cases hd
        obtain ⟨a, h1, _, _, h4⟩ := h.slot i _ hs
        rw [hv] at h1
        cases h1
        exact .inr ⟨a, rfl, h4⟩
      | no => cases hd
      | ex c fs => cases hd
/-- what is no slot's own is shared, and may wait -/
theorem OpdOk.strong {o : Opd} {v : V} {d : D} (h : EnvOk G P F H σ Γ) (ho : OpdOk G P F H σ Γ o v) (hd : o.str = some d) : ∃ F1, Ext P F F1 ∧ EnvOk G P F1 H σ Γ ∧ Rep G F1 d v := by
  cases o with
  | val d' => cases hd; exact ⟨F, Ext.refl _ _, h, ho⟩
  | fresh d' =>
    cases hd
    obtain ⟨a, rfl, h2, h3, h4, h5⟩ := ho
    obtain ⟨u, hu⟩ := h4.some
    exact ⟨upd F a u, Ext.one u h2 h3, h.share hu h3 h5, h4.freeze hu h3⟩
  | own i => cases hd
/-- an operand that waits: what is new is shared meanwhile -/
theorem OpdOk.wait {o : Opd} {v : V} (h : EnvOk G P F H σ Γ) (ho : OpdOk G P F H σ Γ o v) : ∃ F1, Ext P F F1 ∧ EnvOk G P F1 H σ Γ ∧
    (∀ P2 F2 H2 Γ2 d, Same F1 F2 → EnvOk G P2 F2 H2 σ Γ2 → o.get Γ2 = some d → WRep G F2 H2 d v) ∧ (∀ F2 d, Same F1 F2 → o.str = some d → Rep G F2 d v) := by
  cases o with
  | val d' => exact ⟨F, Ext.refl _ _, h, fun _ F2 _ _ d e _ hd => by cases hd; exact .inl (Rep.mono e ho), fun F2 d e hd => by cases hd; exact Rep.mono e ho⟩
  | fresh d' =>
    obtain ⟨F1, e1, h1, r1⟩ := OpdOk.strong h ho rfl
    exact ⟨F1, e1, h1, fun _ F2 _ _ d e _ hd => by cases hd; exact .inl (r1.mono e), fun F2 d e hd => by cases hd; exact r1.mono e⟩
  | own i =>
    obtain ⟨_, hv⟩ := ho
    exact ⟨F, Ext.refl _ _, h, fun P2 F2 H2 Γ2 d e h2 hd => OpdOk.read (o := .own i) h2 ⟨⟨d, hd⟩, hv⟩ hd, fun _ _ _ hd => by cases hd⟩
end

/-! ### denotations of expressions -/
def ExcOk (G : Gx) (F : Hp) (c : Str) (fs : List D) (cls : Value) (d : Option Addr) (H : Hp) : Prop := G.mg c = some cls ∧ fs = [] ∧ d = none
def Go (G : Gx) (P F : Hp) (σ : St) (Γ : Env) (o : Opd) (Q : VK) : Prop := ∀ v F' H', Ext P F F' → EnvOk G P F' H' σ Γ → OpdOk G P F' H' σ Γ o v → Q v H'
def GoX (G : Gx) (W : WX) (P F : Hp) (σ : St) (Γ : Env) (c : Str) (fs : List D) : Prop := ∀ F' H' cls d, Ext P F F' → EnvOk G P F' H' σ Γ → ExcOk G F' c fs cls d H' → W cls d σ H'
def rd (G : Gx) (W : WX) (e : E) : TE := fun σ H Q => ∃ P F Γ, EnvOk G P F H σ Γ ∧ match e Γ with
  | .ok o Γ' => Go G P F σ Γ' o Q
  | .exc c fs Γ' => GoX G W P F σ Γ' c fs
  | .stuck => False
def rdT (G : Gx) (W : WX) (e : T) : TT := fun σ H Q => ∃ P F Γ, EnvOk G P F H σ Γ ∧ match e Γ with
  | .ok b Γ' => ∀ F' H', Ext P F F' → EnvOk G P F' H' σ Γ' → Q b H'
  | .exc c fs Γ' => GoX G W P F σ Γ' c fs
  | .stuck => False
/-- arguments: each a value with its operand -/
def OpdsOk (G : Gx) (P F H : Hp) (σ : St) (Γ : Env) : List Opd → List V → Prop
  | [], vs => vs = []
  | o :: os, vs => ∃ v r, vs = v :: r ∧ OpdOk G P F H σ Γ o v ∧ OpdsOk G P F H σ Γ os r
/-- operands, those that are new shared already -/
def WOpds (G : Gx) (F : Hp) (σ : St) : List Opd → List V → Prop
  | [], vs => vs = []
  | o :: os, vs => ∃ v r, vs = v :: r ∧ ((∃ d, o.str = some d ∧ Rep G F d v) ∨ ∃ i, o = .own i ∧ σ[i]? = some (some v)) ∧ WOpds G F σ os r
def rdA (G : Gx) (W : WX) (t : As) : TA := fun σ H Q => ∃ P F Γ, EnvOk G P F H σ Γ ∧ match t Γ with
  | .ok os Γ' => ∀ vs F' H', Ext P F F' → EnvOk G P F' H' σ Γ' → WOpds G F' σ os vs → Q vs H'
  | .exc c fs Γ' => GoX G W P F σ Γ' c fs
  | .stuck => False

theorem PE_imp {X : Cx} {e : Expr} {t t' : TE} (h : PE X e t) (f : ∀ σ H Q, t' σ H Q → t σ H Q) : PE X e t' := ⟨fun pins s σ H Q I hq => h.run pins s σ H Q I (f σ H Q hq)⟩
theorem PT_imp {X : Cx} {e : Expr} {t t' : TT} (h : PT X e t) (f : ∀ σ H Q, t' σ H Q → t σ H Q) : PT X e t' := ⟨fun pins s σ H Q I hq => h.run pins s σ H Q I (f σ H Q hq)⟩
theorem PA_imp {X : Cx} {e : List Expr} {t t' : TA} (h : PA X e t) (f : ∀ σ H Q, t' σ H Q → t σ H Q) : PA X e t' := ⟨fun pos pins s σ H Q I hq => h.run pos pins s σ H Q I (f σ H Q hq)⟩
theorem PS_imp {X : Cx} {e : Stmt} {t t' : TS} (h : PS X e t) (f : ∀ D σ H, t' D σ H → t D σ H) : PS X e t' := ⟨fun pins s σ H D I hq => h.run pins s σ H D I (f D σ H hq)⟩
theorem PSs_imp {X : Cx} {e : List Stmt} {t t' : TS} (h : PSs X e t) (f : ∀ D σ H, t' D σ H → t D σ H) : PSs X e t' := ⟨fun pins s σ H D I hq => h.run pins s σ H D I (f D σ H hq)⟩
end DP

/-! DpOps: operators, subscripts, built-ins by data. -/
namespace DP
open PySem PySem.Spec
    PyProof.Rows L2

section
variable {G : Gx} {P F H : Hp} {σ : L2.St} {Γ : Env} {Q : VK} {v : V} {d : D} {p : Addr}
theorem WRep.non (h : WRep G F H .non v) : v = .non := by
  rcases h with h | ⟨a, _, h⟩
  · exact h
  · exact h.elim
theorem WRep.bl {b : Bool} (h : WRep G F H (.bl b) v) : v = .bl b := by
  rcases h with h | ⟨a, _, h⟩
  · exact h
  · exact h.elim
theorem WRep.int {i : Int} (h : WRep G F H (.int i) v) : v = .int i := by
  rcases h with h | ⟨a, _, h⟩
  · exact h
  · exact h.elim
theorem WRep.str {i : Str} (h : WRep G F H (.str i) v) : v = .str i := by
  rcases h with h | ⟨a, _, h⟩
  · exact h
  · exact h.elim
theorem WRep.lst {ds : List D} (fh : Same F H) (h : WRep G F H (.lst ds) v) : ∃ a xs, v = .ref a ∧ H a = some (.lst xs) ∧ Reps G F ds xs := by
  rcases h with h | ⟨a, e, h⟩
  · obtain ⟨a, xs, e, h1, h2⟩ := h
    exact ⟨a, xs, e, fh _ _ h1, h2⟩
  · obtain ⟨xs, h1, h2⟩ := h
    exact ⟨a, xs, e, h1, h2⟩
theorem WRep.scr {ds : List D} (fh : Same F H) (h : WRep G F H (.scr ds) v) : ∃ a xs, v = .ref a ∧ SqL G.K H a xs ∧ Reps G F ds xs := by
  rcases h with h | ⟨a, e, h⟩
  · obtain ⟨a, xs, e, h1, h2⟩ := h
    exact ⟨a, xs, e, fh.seq h1, h2⟩
  · exact h.elim
theorem WRep.tup {ds : List D} (fh : Same F H) (h : WRep G F H (.tup ds) v) : ∃ a xs, v = .ref a ∧ SqT G.K H a xs ∧ TupAt G.K F a xs ∧ Reps G F ds xs := by
  rcases h with h | ⟨a, e, h⟩
  · obtain ⟨a, xs, e, h1, h2⟩ := h
    exact ⟨a, xs, e, same_t fh h1.sq, h1, h2⟩
  · exact h.elim
theorem WRep.dK {ds : List (Sum Int Str × D)} (h : WRep G F H (.dK ds) v) : False := by
  rcases h with h | ⟨a, e, h⟩
  · exact h
  · exact h
theorem WRep.dT {ds : List (List (Sum Int Str) × D)} (h : WRep G F H (.dT ds) v) : False := by
  rcases h with h | ⟨a, e, h⟩
  · exact h
  · exact h
theorem WRep.ins {c : Str} {fs : List (Str × D)} (h : WRep G F H (.ins c fs) v) : False := by
  rcases h with h | ⟨a, e, h⟩
  · exact h
  · exact h
theorem Go.val (env : EnvOk G P F H σ Γ) (h : Go G P F σ Γ (.val d) Q) (r : Rep G F d v) : Q v H := h v F H (Ext.refl _ _) env r
theorem Go.newT {ds : List D} {xs : List V} {o : Obj} (env : EnvOk G P F H σ Γ) (h : Go G P F σ Γ (.val (.tup ds)) Q) (hn : H p = none) (hd : o.dict = none) (r : Reps G F ds xs) : Q (.ref p) (upd H p (.frz o (.tup xs))) := by
  obtain ⟨e, x⟩ := env.newSh (u := .frz o (.tup xs)) hn
  exact h _ _ _ x e ⟨p, xs, rfl, .inl ⟨o, upd_same, hd⟩, r.mono x.sub⟩
theorem Go.newL {ds : List D} {xs : List V} (env : EnvOk G P F H σ Γ) (h : Go G P F σ Γ (.fresh (.lst ds)) Q) (hn : H p = none) (r : Reps G F ds xs) : Q (.ref p) (upd H p (.lst xs)) :=
  h _ _ _ (Ext.refl _ _) (env.new hn) ⟨p, rfl, (env.fresh_none hn).2, (env.fresh_none hn).1, ⟨xs, upd_same, r⟩, env.notOwn hn⟩
theorem Reps.ints {is : List Int} : Reps G F (is.map D.int) (is.map V.int) := Reps.of (by simp) fun i d v e1 e2 => by
  rw [List.getElem?_map] at e1 e2
  cases h : is[i]? with
  | none => rw [h] at e1; cases e1
  | some k => rw [h] at e1 e2; cases e1; cases e2; rfl
end

/-! ### new tuples, their objects known -/
section
variable {X : Cx}
/-- t + u -/
def rCatZ (K : PySem.W.Frag) : R2 := fun x y H Q => ∃ a b xs ys, x = .ref a ∧ y = .ref b ∧ SqT K H a xs ∧ SqT K H b ys ∧ xs.length + ys.length ≤ sizeLine ∧
  (xs = [] → Q (.ref b) H) ∧ (xs ≠ [] → ys = [] → Q (.ref a) H) ∧ (xs ≠ [] → ys ≠ [] → ∀ (p : Addr) (o : Obj), o.dict = none → H p = none → Q (.ref p) (upd H p (.frz o (.tup (xs ++ ys)))))
theorem laidZ {pins : List (Addr × Obj)} {σ : L2.St} {H : Hp} {s : Shared} {its : List Value} {xs : List V} {t' : Nat} (I : Inv X pins σ H s) (r : Vals xs its) (hz : xs.length ≤ sizeLine) :
    Inv X pins σ (upd H s.heap.objs.size (.frz { cls := .type "tuple", data := .seq its.toArray } (.tup xs))) { s with heap := s.heap.push { cls := .type "tuple", data := .seq its.toArray }, toks := t' } :=
  I.laid (t' := t') (fun b o e => Heap.get?_push_of_some _ e) (Nat.le_refl _) (show ObjOk X.prog X.w _ _ _ (.frz _ (.tup xs)) from ⟨Heap.get?_push_size _ rfl, hz, its, r, IsTup.new _ _⟩)
theorem op_catZ : OpR X (binaryOp .Add) (rCatZ X.K) := by
  intro pn sh τ Hh x y vx vy Qk Iv rx ry hq
  obtain ⟨a, b, xs, ys, rfl, rfl, ha, hb, hz, q0, q1, q2⟩ := hq
  cases rx
  cases ry
  obtain ⟨us, r1, p1, _⟩ := Iv.tuple ha
  obtain ⟨ws, r2, p2, _⟩ := Iv.tuple hb
  by_cases hx : xs = []
  · subst hx
    cases r1
    exact cat_tup0 p1 p2 ⟨.ref b, Hh, Iv, rfl, q0 rfl⟩
  · refine HT.cat_tup p1 p2 (fun z => hx (r1.nil_iff.mp z)) (fun z => ⟨.ref a, Hh, Iv, rfl, q1 hx (r2.nil_iff.mp z)⟩) (fun z => ?_) (by rw [← r1.length, ← r2.length]; exact hz)
    exact ⟨.ref sh.heap.objs.size, _, laidZ (t' := sh.toks) Iv (r1.append r2) (by rw [List.length_append]; exact hz), rfl, q2 hx (fun e => z (r2.nil_iff.mpr e)) _ _ rfl (Iv.hok.fresh (Nat.le_refl _))⟩
/-- t[lo:hi] -/
def rSlZ (K : PySem.W.Frag) : V → Option Int → Option Int → Hp → VK → Prop := fun x lo hi H Q => ∃ a xs, x = .ref a ∧ SqT K H a xs ∧
  (HT.sIx xs.length 0 lo = 0 ∧ HT.sIx xs.length xs.length hi = xs.length → Q (.ref a) H) ∧ (¬ (HT.sIx xs.length 0 lo = 0 ∧ HT.sIx xs.length xs.length hi = xs.length) → ∀ (p : Addr) (o : Obj), o.dict = none → H p = none → Q (.ref p) (upd H p (.frz o (.tup (cutV xs lo hi)))))
theorem sl_tupZ : SlR X (rSlZ X.K) := by
  intro pn sh τ Hh x vx wl wu lo hi sla Qk Iv rx hsl plo phi hq
  obtain ⟨a, xs, rfl, hx, q1, q2⟩ := hq
  cases rx
  obtain ⟨us, r, ht, hz⟩ := Iv.tuple hx
  have hlen : us.toArray.size = xs.length := by rw [List.size_toArray, r.length]
  refine ⟨"tuple", _,
      PyProof.Rows.slot_tuple_getitem.lookup, ht.typeIs, ?_⟩
  by_cases hw : HT.sIx xs.length 0 lo = 0 ∧
      HT.sIx xs.length xs.length hi = xs.length
  · exact getItem_tuple_whole ht hsl plo phi (hlen.symm ▸ hw) ⟨.ref a, Hh, Iv, rfl, q1 hw⟩
  · refine HT.getItem_tuple_cut ht hsl plo phi (hlen.symm ▸ hw) ?_ (hlen.symm ▸ hz)
    rw [hlen]
    exact ⟨.ref sh.heap.objs.size, _, laidZ (t' := sh.toks) Iv ((r.drop (HT.sIx xs.length 0 lo)).take (HT.sIx xs.length xs.length hi - HT.sIx xs.length 0 lo)) (Nat.le_trans (cutV_length xs lo hi) hz), rfl, q2 hw _ _ rfl (Iv.hok.fresh (Nat.le_refl _))⟩
/-- tuple(x) -/
theorem call_tupleZ : CallR X (.type "tuple") (fun xs H Q => ∃ p ys, xs = [.ref p] ∧ ((SqL X.K H p ys ∧ ∀ (l : Addr) (o : Obj), o.dict = none → H l = none → Q (.ref l) (upd H l (.frz o (.tup ys)))) ∨ (SqT X.K H p ys ∧ Q (.ref p) H))) := by
  intro pn sh τ Hh xs us Qk Iv rr hq
  obtain ⟨p, ys, rfl, hq⟩ := hq
  obtain ⟨u, rfl, rx⟩ := vals1 rr
  cases rx
  rcases hq with ⟨hl, q⟩ | ⟨hl, q⟩
  · obtain ⟨ws, r1, pl, hz⟩ := Iv.list hl
    have hn := r1.length
    refine call_tuple_list pl.isList (fun h1 kp => ?_) (by rw [List.size_toArray]; omega)
    have I1 : Inv X pn τ Hh { sh with heap := h1 } := Iv.kept (t' := sh.toks) kp
    exact ⟨.ref h1.objs.size, _, laidZ (t' := sh.toks) I1 r1 hz, rfl, q _ _ rfl (I1.hok.fresh (Nat.le_refl _))⟩
  · obtain ⟨ws, r1, pl, hz⟩ := Iv.tuple hl
    exact call_tuple_same pl ⟨.ref p, Hh, Iv, rfl, q⟩
/-- (a, b, ..) -/
def tTupZ (t : TA) : TE := fun σ H Q => t σ H fun xs H1 => xs.length ≤ sizeLine ∧ ∀ (p : Addr) (o : Obj), o.dict = none → H1 p = none → Q (.ref p) (upd H1 p (.frz o (.tup xs)))
theorem pe_tupZ {x1 : _} {es : List Expr} {t : TA} {pos : Pos} (h : PA X es t) : PE X (.Tuple es x1 pos) (tTupZ t) := by
  refine ⟨fun pn sh τ Hh Qk Iv hq => ?_⟩
  refine wpAny_Tuple_spliced (thn (h.run pos pn sh τ Hh _ Iv hq) fun us s1 ⟨xs, H1, I1, r, z, q⟩ => ⟨r.length ▸ z, ?_⟩)
  exact ⟨.ref s1.heap.objs.size, _, laidZ (t' := s1.toks) I1 r z, rfl, q _ _ rfl (I1.hok.fresh (Nat.le_refl _))⟩
end

/-! ### two-place operators -/
def OpD (G : Gx) (X : Cx) (opf : Value → Value → Sem Value) (f : D → D → Option Opd) : Prop := ∃ r : R2, OpR X opf r ∧
  ∀ {P F H : Hp} {σ : L2.St} {Γ : Env} {dx dy : D} {x y : V} {o : Opd} {Q : VK}, EnvOk G P F H σ Γ → WRep G F H dx x → WRep G F H dy y → f dx dy = some o → Go G P F σ Γ o Q → r x y H Q
section
variable {G : Gx} {X : Cx}
theorem opd_I0 {opf : Value → Value → Sem Value} {g : Int → Int → Int} {f : D → D → Option Opd} (h : OpR X opf (rI0 fun i j => .int (g i j)))
    (hf : ∀ dx dy o, f dx dy = some o → ∃ i j, dx = .int i ∧ dy = .int j ∧ o = .val (.int (g i j))) : OpD G X opf f :=
  ⟨_, h, fun {P F H σ Γ dx dy x y o Q} env hx hy e q => by
    obtain ⟨i, j, rfl, rfl, rfl⟩ := hf _ _ _ e
    exact ⟨i, j, hx.int, hy.int, q.val env rfl⟩⟩
theorem opd_B0 {opf : Value → Value → Sem Value} {g : Int → Int → Bool} {f : D → D → Option Opd} (h : OpR X opf (rI0 fun i j => .bl (g i j)))
    (hf : ∀ dx dy o, f dx dy = some o → ∃ i j, dx = .int i ∧ dy = .int j ∧ o = .val (.bl (g i j))) : OpD G X opf f :=
  ⟨_, h, fun {P F H σ Γ dx dy x y o Q} env hx hy e q => by
    obtain ⟨i, j, rfl, rfl, rfl⟩ := hf _ _ _ e
    exact ⟨i, j, hx.int, hy.int, q.val env rfl⟩⟩
theorem opd_IC {opf : Value → Value → Sem Value} {C : Int → Int → Prop} {g : Int → Int → Int} {f : D → D → Option Opd} (h : OpR X opf (rI C fun i j => .int (g i j)))
    (hf : ∀ dx dy o, f dx dy = some o → ∃ i j, dx = .int i ∧ dy = .int j ∧ C i j ∧ o = .val (.int (g i j))) : OpD G X opf f :=
  ⟨_, h, fun {P F H σ Γ dx dy x y o Q} env hx hy e q => by
    obtain ⟨i, j, rfl, rfl, hc, rfl⟩ := hf _ _ _ e
    exact ⟨i, j, hx.int, hy.int, hc, q.val env rfl⟩⟩
theorem opd_sub : OpD G X (binaryOp .Sub) subF := opd_I0 op_sub fun dx dy o e => by
  unfold subF ov at e
  split at e
  · cases e; exact ⟨_, _, rfl, rfl, rfl⟩
  · cases e
theorem opd_mul : OpD G X (binaryOp .Mult) mulF := opd_IC op_mulW fun dx dy o e => by
  unfold mulF ov at e
  split at e
  · split at e
    · rename_i h
      cases e
      have h2 := h
      unfold mulOk at h2
      exact ⟨_, _, rfl, rfl, by unfold CMulW; exact of_decide_eq_true h2, rfl⟩
    · cases e
  · cases e
theorem opd_fdiv : OpD G X (binaryOp .FloorDiv) fdivF := opd_IC op_fdivW fun dx dy o e => by
  unfold fdivF ov at e
  split at e
  · split at e
    · rename_i h
      cases e
      rw [Bool.and_eq_true, decide_eq_true_eq, decide_eq_true_eq] at h
      exact ⟨_, _, rfl, rfl, h, rfl⟩
    · cases e
  · cases e
theorem opd_mod : OpD G X (binaryOp .Mod) modF := opd_IC op_mod fun dx dy o e => by
  unfold modF ov at e
  split at e
  · split at e
    · rename_i h
      cases e
      exact ⟨_, _, rfl, rfl, h, rfl⟩
    · cases e
  · cases e
theorem opd_pow : OpD G X (binaryOp .Pow) powF := opd_IC op_pow fun dx dy o e => by
  unfold powF ov at e
  split at e
  · split at e
    · rename_i h
      cases e
      rw [Bool.and_eq_true, Bool.and_eq_true, decide_eq_true_eq, decide_eq_true_eq, decide_eq_true_eq] at h
      exact ⟨_, _, rfl, rfl, ⟨h.1.1, h.1.2, h.2⟩, rfl⟩
    · cases e
  · cases e
theorem opd_lt : OpD G X (compareOp .Lt) ltF := opd_B0 op_lt fun dx dy o e => by
  unfold ltF ov at e
  split at e
  · cases e; exact ⟨_, _, rfl, rfl, rfl⟩
  · cases e
theorem opd_le : OpD G X (compareOp .LtE) leF := opd_B0 op_le fun dx dy o e => by
  unfold leF ov at e
  split at e
  · cases e; exact ⟨_, _, rfl, rfl, rfl⟩
  · cases e
theorem opd_gt : OpD G X (compareOp .Gt) gtF := opd_B0 op_gt fun dx dy o e => by
  unfold gtF ov at e
  split at e
  · cases e; exact ⟨_, _, rfl, rfl, rfl⟩
  · cases e
theorem opd_ge : OpD G X (compareOp .GtE) geF := opd_B0 op_ge fun dx dy o e => by
  unfold geF ov at e
  split at e
  · cases e; exact ⟨_, _, rfl, rfl, rfl⟩
  · cases e
theorem line_le {n : Nat} (h : n ≤ 1000000) : n ≤ sizeLine := Nat.le_trans h (by decide)
theorem line_lt {n : Nat} (h : n < 1000000) : n < sizeLine := Nat.lt_of_lt_of_le h (by decide)
theorem opd_add (hK : G.K = X.K) : OpD G X (binaryOp .Add) addF :=
  ⟨_, ((op_add.or op_cat).or op_catZ).or op_add_str, fun {P F H σ Γ dx dy x y o Q} env hx hy e q => by
    unfold addF ov of at e
    split at e
    · cases e
      exact .inl (.inl (.inl ⟨_, _, hx.int, hy.int, q.val env rfl⟩))
    · split at e
      · rename_i h
        cases e
        obtain ⟨a, xs, rfl, hxl, rx⟩ := hx.lst env.fh
        obtain ⟨b, ys, rfl, hyl, ry⟩ := hy.lst env.fh
        exact .inl (.inl (.inr ⟨a, b, xs, ys, rfl, rfl, hxl, hyl, by rw [rx.length, ry.length]; exact line_le h, fun p hp => q.newL env hp (rx.append ry)⟩))
      · cases e
    · split at e
      · rename_i h
        cases e
        obtain ⟨a, xs, rfl, hxl, hxf, rx⟩ := hx.tup env.fh
        obtain ⟨b, ys, rfl, hyl, hyf, ry⟩ := hy.tup env.fh
        rw [hK] at hxl hyl
        refine .inl (.inr ⟨a, b, xs, ys, rfl, rfl, hxl, hyl, by rw [rx.length, ry.length]; exact line_le h, fun e0 => ?_, fun _ e0 => ?_, fun _ _ p ob ho hp => ?_⟩)
        · subst e0
          refine q.val env ⟨b, ys, rfl, hyf, ?_⟩
          exact Reps.append rx ry
        · subst e0
          refine q.val env ⟨a, xs, rfl, hxf, ?_⟩
          have := Reps.append rx ry
          rwa [List.append_nil] at this
        · exact q.newT env hp ho (rx.append ry)
      · cases e
    · split at e
      · rename_i h
        cases e
        exact .inr ⟨_, _, hx.str, hy.str, line_le h, q.val env rfl⟩
      · cases e
    · cases e⟩

/-! ### == -/
mutual
def py : D → PyData
  | .non => .none
  | .bl b => .bool b
  | .int i => .int i
  | .str s => .str s
  | .tup xs => .tuple (pys xs)
  | .lst xs => .list (pys xs)
  | _ => .none
def pys : List D → List PyData
  | [] => []
  | x :: xs => py x :: pys xs
end
section
variable {F H : Hp}
mutual
theorem rep_dp (fh : Same F H) : ∀ (n : Nat) (d : D) (v : V), plain n d = true → Rep G F d v → Dp G.K H v (py d)
  | _, .non, v, _, h => by rw [show v = .non from h]; exact .non
  | _, .bl b, v, _, h => by rw [show v = .bl b from h]; exact .bl b
  | _, .int i, v, _, h => by rw [show v = .int i from h]; exact .int i
  | _, .str s, v, _, h => by rw [show v = .str s from h]; exact .str s
  | 0, .tup xs, v, p, _ => by simp only [plain, Bool.false_eq_true] at p
  | n + 1, .tup xs, v, p, h => by
    obtain ⟨a, vs, rfl, h1, h2⟩ := h
    simp only [plain] at p
    simp only [py]
    exact .tup (same_t fh h1.sq) (reps_dp fh n xs vs p h2)
  | 0, .lst xs, v, p, _ => by simp only [plain, Bool.false_eq_true] at p
  | n + 1, .lst xs, v, p, h => by
    obtain ⟨a, vs, rfl, h1, h2⟩ := h
    simp only [plain] at p
    simp only [py]
    exact .lst (SqL.of (fh _ _ h1)) (reps_dp fh n xs vs p h2)
  | n, .scr xs, v, p, _ => by cases n <;> simp only [plain, Bool.false_eq_true] at p
  | n, .dK xs, v, p, _ => by cases n <;> simp only [plain, Bool.false_eq_true] at p
  | n, .dT xs, v, p, _ => by cases n <;> simp only [plain, Bool.false_eq_true] at p
  | n, .ins c xs, v, p, _ => by cases n <;> simp only [plain, Bool.false_eq_true] at p
theorem reps_dp (fh : Same F H) : ∀ (n : Nat) (ds : List D) (vs : List V), plains n ds = true → Reps G F ds vs → DpAll G.K H vs (pys ds)
  | _, [], vs, _, h => by rw [show vs = [] from h]; exact .nil
  | n, d :: ds, vs, p, h => by
    obtain ⟨v, r, rfl, h1, h2⟩ := h
    simp only [plains, Bool.and_eq_true] at p
    exact .cons (rep_dp fh n d v p.1 h1) (reps_dp fh n ds r p.2 h2)
end
theorem wrep_dp (fh : Same F H) {n : Nat} {d : D} {v : V} (p : plain n d = true) (h : WRep G F H d v) : Dp G.K H v (py d) := by
  cases d with
  | lst xs =>
    obtain ⟨a, vs, rfl, h1, h2⟩ := h.lst fh
    cases n with
    | zero => simp only [plain, Bool.false_eq_true] at p
    | succ n =>
      simp only [plain] at p
      simp only [py]
      exact .lst (SqL.of h1) (reps_dp fh n xs vs p h2)
  | _ =>
    rcases h with h | ⟨a, _, h⟩
    · exact rep_dp fh n _ v p h
    · exact h.elim
end
mutual
theorem eqv_py : ∀ (n m : Nat) (x y : D), plain n x = true → plain m y = true → PyData.eqv (py x) (py y) = eqD x y
  | n, m, x, y, p, q => by
    cases x <;> cases y <;> first
      | (simp only [plain, Bool.false_eq_true] at p; done)
      | (simp only [plain, Bool.false_eq_true] at q; done)
      | (cases n <;> simp only [plain, Bool.false_eq_true] at p; done)
      | (cases m <;> simp only [plain, Bool.false_eq_true] at q; done)
      | (simp only [py, PyData.eqv, eqD]; done)
      | skip
    · rename_i xs ys
      cases n with
      | zero => simp only [plain, Bool.false_eq_true] at p
      | succ n =>
        cases m with
        | zero => simp only [plain, Bool.false_eq_true] at q
        | succ m =>
          simp only [plain] at p q
          simp only [py, PyData.eqv, eqD]
          exact eqvs_pys n m xs ys p q
    · rename_i xs ys
      cases n with
      | zero => simp only [plain, Bool.false_eq_true] at p
      | succ n =>
        cases m with
        | zero => simp only [plain, Bool.false_eq_true] at q
        | succ m =>
          simp only [plain] at p q
          simp only [py, PyData.eqv, eqD]
          exact eqvs_pys n m xs ys p q
theorem eqvs_pys : ∀ (n m : Nat) (xs ys : List D), plains n xs = true → plains m ys = true → PyData.eqvAll (pys xs) (pys ys) = eqDs xs ys
  | _, _, [], [], _, _ => by simp only [pys, PyData.eqvAll, eqDs]
  | _, _, [], _ :: _, _, _ => by simp only [pys, PyData.eqvAll, eqDs]
  | _, _, _ :: _, [], _, _ => by simp only [pys, PyData.eqvAll, eqDs]
  | n, m, x :: xs, y :: ys, p, q => by
    simp only [plains, Bool.and_eq_true] at p q
    simp only [pys, PyData.eqvAll, eqDs]
    rw [eqv_py n m x y p.1 q.1, eqvs_pys n m xs ys p.2 q.2]
end
mutual
theorem shape_py : ∀ (n : Nat) (x : D), plain n x = true → (py x).canLay0 = true ∧ (py x).depth ≤ n
  | n, .non, _ => by simp only [py, PyData.canLay0, PyData.depth, Nat.zero_le, and_self]
  | n, .bl _, _ => by simp only [py, PyData.canLay0, PyData.depth, Nat.zero_le, and_self]
  | n, .int _, _ => by simp only [py, PyData.canLay0, PyData.depth, Nat.zero_le, and_self]
  | n, .str s, p => by
    simp only [plain] at p
    simp only [py, PyData.canLay0, PyData.depth, Nat.zero_le, and_true]
    exact p
  | 0, .tup _, p => by simp only [plain, Bool.false_eq_true] at p
  | 0, .lst _, p => by simp only [plain, Bool.false_eq_true] at p
  | n + 1, .tup xs, p => by
    simp only [plain] at p
    have h := shapes_pys n xs p
    simp only [py, PyData.canLay0, PyData.depth]
    exact ⟨h.1, by omega⟩
  | n + 1, .lst xs, p => by
    simp only [plain] at p
    have h := shapes_pys n xs p
    simp only [py, PyData.canLay0, PyData.depth]
    exact ⟨h.1, by omega⟩
  | n, .scr _, p => by cases n <;> simp only [plain, Bool.false_eq_true] at p
  | n, .dK _, p => by cases n <;> simp only [plain, Bool.false_eq_true] at p
  | n, .dT _, p => by cases n <;> simp only [plain, Bool.false_eq_true] at p
  | n, .ins _ _, p => by cases n <;> simp only [plain, Bool.false_eq_true] at p
theorem shapes_pys : ∀ (n : Nat) (xs : List D), plains n xs = true → PyData.canLayAll0 (pys xs) = true ∧ PyData.depthAll (pys xs) ≤ n
  | n, [], _ => by simp only [pys, PyData.canLayAll0, PyData.depthAll, Nat.zero_le, and_self]
  | n, x :: xs, p => by
    simp only [plains, Bool.and_eq_true] at p
    have h1 := shape_py n x p.1
    have h2 := shapes_pys n xs p.2
    simp only [pys, PyData.canLayAll0, PyData.depthAll, h1.1, h2.1, Bool.and_self, true_and]
    omega
end
theorem shaped_py {n : Nat} {x : D} (p : plain n x = true) (h : n ≤ 64) : SeqAt.shaped (py x) = true := by
  have s := shape_py n x p
  unfold SeqAt.shaped
  rw [s.1, Bool.true_and]
  exact decide_eq_true
      (by omega)
theorem opd_eq (hK : G.K = X.K) (hu : X.A.units + 64 < cLine) : OpD G X (compareOp .Eq) eqF :=
  ⟨_, op_eqD hu, fun {P F H σ Γ dx dy x y o Q} env hx hy e q => by
    unfold eqF ov at e
    split at e
    · rename_i h
      cases e
      rw [Bool.and_eq_true] at h
      rw [← hK]
      refine ⟨_, _, wrep_dp env.fh h.1 hx, wrep_dp env.fh h.2 hy, shaped_py h.1 (by decide), shaped_py h.2 (by decide), ?_⟩
      rw [eqv_py _ _ _ _ h.1 h.2]
      exact q.val env rfl
    · cases e⟩
theorem opd_ne (hK : G.K = X.K) (hu : X.A.units + 64 < cLine) : OpD G X (compareOp .NotEq) neF :=
  ⟨_, op_neD hu, fun {P F H σ Γ dx dy x y o Q} env hx hy e q => by
    unfold neF ov at e
    split at e
    · rename_i h
      cases e
      rw [Bool.and_eq_true] at h
      rw [← hK]
      refine ⟨_, _, wrep_dp env.fh h.1 hx, wrep_dp env.fh h.2 hy, shaped_py h.1 (by decide), shaped_py h.2 (by decide), ?_⟩
      rw [eqv_py _ _ _ _ h.1 h.2]
      exact q.val env rfl
    · cases e⟩

/-! ### in -/
theorem flat_rep {F : Hp} {d : D} {v : V} (p : flat d = true) (h : Rep G F d v) : flatV v = true := by
  cases d <;> first
    | (simp only [flat, Bool.false_eq_true] at p; done)
    | (rw [show v = _ from h]; rfl)
theorem eqV_rep {F : Hp} {d e : D} {v w : V} (p : flat d = true) (q : flat e = true) (h : Rep G F d v) (k : Rep G F e w) : eqV v w = eqD d e := by
  cases d <;> cases e <;> first
    | (simp only [flat, Bool.false_eq_true] at p; done)
    | (simp only [flat, Bool.false_eq_true] at q; done)
    | (rw [show v = _ from h, show w = _ from k]; simp only [eqV, eqD]; done)
theorem flats_rep {F : Hp} : ∀ {ds : List D} {vs : List V}, ds.all flat = true → Reps G F ds vs → vs.all flatV = true
  | [], _, _, h => by rw [show _ = [] from h]; rfl
  | d :: ds, _, p, h => by
    obtain ⟨v, r, rfl, h1, h2⟩ := h
    simp only [List.all_cons, Bool.and_eq_true] at p ⊢
    exact ⟨flat_rep p.1 h1, flats_rep p.2 h2⟩
theorem inV_rep {F : Hp} {e : D} {w : V} (q : flat e = true) (k : Rep G F e w) : ∀ {ds : List D} {vs : List V}, ds.all flat = true → Reps G F ds vs → inV w vs = ds.any fun y => eqD y e
  | [], _, _, h => by rw [show _ = [] from h]; rfl
  | d :: ds, _, p, h => by
    obtain ⟨v, r, rfl, h1, h2⟩ := h
    simp only [List.all_cons, Bool.and_eq_true] at p
    have ih := inV_rep q k p.2 h2
    unfold inV at ih ⊢
    rw [List.any_cons, List.any_cons, ih, eqV_rep p.1 q h1 k]
theorem WRep.flat {F H : Hp} {d : D} {v : V} (p : flat d = true) (h : WRep G F H d v) : Rep G F d v := by
  rcases h with h | ⟨a, _, h⟩
  · exact h
  · cases d <;> first
      | (simp only [DP.flat, Bool.false_eq_true] at p; done)
      | exact h.elim
theorem opd_in (hK : G.K = X.K) : OpD G X (compareOp .In) inF :=
  ⟨_, op_in_seq, fun {P F H σ Γ dx dy x y o Q} env hx hy e q => by
    unfold inF ov at e
    split at e
    · split at e
      · rename_i h
        cases e
        rw [Bool.and_eq_true] at h
        obtain ⟨b, ys, rfl, hyl, hyf, ry⟩ := hy.tup env.fh
        refine ⟨b, ys, rfl, .inr (by rw [← hK]; exact hyl), flat_rep h.1 (hx.flat h.1), flats_rep h.2 ry, ?_⟩
        rw [inV_rep h.1 (hx.flat h.1) h.2 ry]
        exact q.val env rfl
      · cases e
    · split at e
      · rename_i h
        cases e
        rw [Bool.and_eq_true] at h
        obtain ⟨b, ys, rfl, hyl, ry⟩ := hy.lst env.fh
        refine ⟨b, ys, rfl, .inl (SqL.of hyl), flat_rep h.1 (hx.flat h.1), flats_rep h.2 ry, ?_⟩
        rw [inV_rep h.1 (hx.flat h.1) h.2 ry]
        exact q.val env rfl
      · cases e
    · cases e⟩
theorem opd_notIn (hK : G.K = X.K) : OpD G X (compareOp .NotIn) notInF :=
  ⟨_, op_notIn_seq, fun {P F H σ Γ dx dy x y o Q} env hx hy e q => by
    unfold notInF ov at e
    split at e
    · split at e
      · rename_i h
        cases e
        rw [Bool.and_eq_true] at h
        obtain ⟨b, ys, rfl, hyl, hyf, ry⟩ := hy.tup env.fh
        refine ⟨b, ys, rfl, .inr (by rw [← hK]; exact hyl), flat_rep h.1 (hx.flat h.1), flats_rep h.2 ry, ?_⟩
        rw [inV_rep h.1 (hx.flat h.1) h.2 ry]
        exact q.val env rfl
      · cases e
    · split at e
      · rename_i h
        cases e
        rw [Bool.and_eq_true] at h
        obtain ⟨b, ys, rfl, hyl, ry⟩ := hy.lst env.fh
        refine ⟨b, ys, rfl, .inl (SqL.of hyl), flat_rep h.1 (hx.flat h.1), flats_rep h.2 ry, ?_⟩
        rw [inV_rep h.1 (hx.flat h.1) h.2 ry]
        exact q.val env rfl
      · cases e
    · cases e⟩
end
end DP

/-! DpOps2: subscripts, slices, built-ins, methods by data. -/
namespace DP
open PySem PySem.Spec
    PyProof.Rows L2

section
variable {G : Gx} {X : Cx}
/-! ### subscripts, slices -/
def IxD (G : Gx) (X : Cx) (f : D → D → Option Opd) : Prop := ∃ r : R2, IxR X r ∧
  ∀ {P F H : Hp} {σ : L2.St} {Γ : Env} {dx dy : D} {x y : V} {o : Opd} {Q : VK}, EnvOk G P F H σ Γ → WRep G F H dx x → WRep G F H dy y → f dx dy = some o → Go G P F σ Γ o Q → r x y H Q
theorem ixD_at {F : Hp} {ds : List D} {xs : List V} {i : Int} {d : D} (r : Reps G F ds xs) (h : ixD ds i = some d) : ∃ v, atI xs i = some v ∧ Rep G F d v := by
  have hl := r.length
  unfold ixD at h
  unfold atI ixN
  rw [hl]
  by_cases h0 : 0 ≤ i
  · rw [if_pos h0] at h ⊢
    by_cases h1 : i < ds.length
    · rw [if_pos h1] at h ⊢
      obtain ⟨v, hv, rv⟩ := r.get h
      exact ⟨v, hv, rv⟩
    · rw [if_neg h1] at h
      cases h
  · rw [if_neg h0] at h ⊢
    by_cases h1 : -(ds.length : Int) ≤ i
    · rw [if_pos h1] at h ⊢
      obtain ⟨v, hv, rv⟩ := r.get h
      exact ⟨v, hv, rv⟩
    · rw [if_neg h1] at h
      cases h
theorem ixd (hK : G.K = X.K) : IxD G X ixF :=
  ⟨_, IxR.or ix_list ix_tup, fun {P F H σ Γ dx dy x y o Q} env hx hy e q => by
    unfold ixF at e
    split at e
    · rename_i ds i
      cases h : ixD ds i with
      | none => rw [h] at e; cases e
      | some d =>
        rw [h] at e
        cases e
        obtain ⟨a, xs, rfl, h1, h2⟩ := hx.lst env.fh
        obtain ⟨v, hv, rv⟩ := ixD_at h2 h
        exact .inl ⟨a, xs, i, v, rfl, hy.int, SqL.of h1, hv, q.val env rv⟩
    · rename_i ds i
      cases h : ixD ds i with
      | none => rw [h] at e; cases e
      | some d =>
        rw [h] at e
        cases e
        obtain ⟨a, xs, rfl, h1, h2⟩ := hx.scr env.fh
        obtain ⟨v, hv, rv⟩ := ixD_at h2 h
        exact .inl ⟨a, xs, i, v, rfl, hy.int, by rw [← hK]; exact h1, hv, q.val env rv⟩
    · rename_i ds i
      cases h : ixD ds i with
      | none => rw [h] at e; cases e
      | some d =>
        rw [h] at e
        cases e
        obtain ⟨a, xs, rfl, h1, _, h2⟩ := hx.tup env.fh
        obtain ⟨v, hv, rv⟩ := ixD_at h2 h
        exact .inr ⟨a, xs, i, v, rfl, hy.int, by rw [← hK]; exact h1, hv, q.val env rv⟩
    · cases e⟩
theorem sIx_eq (n d : Nat) (o : Option Int) : HT.sIx n d o = sIx n d o := by
  cases o <;> rfl
theorem cut_rep {F : Hp} {ds : List D} {xs : List V} {lo hi : Option Int} (r : Reps G F ds xs) : Reps G F (cut ds lo hi) (cutV xs lo hi) := by
  unfold cut cutV
  rw [r.length, sIx_eq, sIx_eq]
  exact (r.drop _).take _
def SlD (G : Gx) (X : Cx) (f : D → Option Int → Option Int → Option Opd) : Prop := ∃ r, SlR X r ∧
  ∀ {P F H : Hp} {σ : L2.St} {Γ : Env} {dx : D} {x : V} {lo hi : Option Int} {o : Opd} {Q : VK}, EnvOk G P F H σ Γ → WRep G F H dx x → f dx lo hi = some o → Go G P F σ Γ o Q → r x lo hi H Q
theorem sld (hK : G.K = X.K) : SlD G X slF :=
  ⟨_, SlR.or sl_list sl_tupZ, fun {P F H σ Γ dx x lo hi o Q} env hx e q => by
    unfold slF ov of at e
    split at e
    · cases e
      obtain ⟨a, xs, rfl, h1, h2⟩ := hx.lst env.fh
      exact .inl ⟨a, xs, rfl, SqL.of h1, fun p hp => q.newL env hp (cut_rep h2)⟩
    · cases e
      obtain ⟨a, xs, rfl, h1, h3, h2⟩ := hx.tup env.fh
      refine .inr ⟨a, xs, rfl, by rw [← hK]; exact h1, fun hw => ?_, fun _ p ob ho hp => q.newT env hp ho (cut_rep h2)⟩
      refine q.val env ⟨a, xs, rfl, h3, ?_⟩
      have hc : cutV xs lo hi = xs := by
        unfold cutV
        rw [hw.1, hw.2, List.drop_zero, Nat.sub_zero, List.take_length]
      have := cut_rep (lo := lo) (hi := hi) h2
      rwa [hc] at this
    · cases e⟩

/-! ### built-ins by values -/
def WReps (G : Gx) (F H : Hp) : List D → List V → Prop
  | [], vs => vs = []
  | d :: ds, vs => ∃ v r, vs = v :: r ∧ WRep G F H d v ∧ WReps G F H ds r
def CBD (G : Gx) (X : Cx) (fv : Value) (f : List D → Option Opd) : Prop := ∃ r, CallR X fv r ∧
  ∀ {P F H : Hp} {σ : L2.St} {Γ : Env} {ds : List D} {vs : List V} {o : Opd} {Q : VK}, EnvOk G P F H σ Γ → WReps G F H ds vs → f ds = some o → Go G P F σ Γ o Q → r vs H Q
theorem WReps.one {F H : Hp} {d : D} {vs : List V} (h : WReps G F H [d] vs) : ∃ v, vs = [v] ∧ WRep G F H d v := by
  obtain ⟨v, r, rfl, h1, h2⟩ := h
  rw [show r = [] from h2]
  exact ⟨v, rfl, h1⟩
theorem cbd_len (hK : G.K = X.K) : CBD G X (.builtin "len") lenF :=
  ⟨_, call_len_seq, fun {P F H σ Γ ds vs o Q} env hv e q => by
    unfold lenF ov at e
    split at e
    · cases e
      obtain ⟨v, rfl, hx⟩ := hv.one
      obtain ⟨a, xs, rfl, h1, h2⟩ := hx.lst env.fh
      exact ⟨a, xs, rfl, .inl (SqL.of h1), by rw [h2.length]; exact q.val env rfl⟩
    · cases e
      obtain ⟨v, rfl, hx⟩ := hv.one
      obtain ⟨a, xs, rfl, h1, h2⟩ := hx.scr env.fh
      exact ⟨a, xs, rfl, .inl (by rw [← hK]; exact h1), by rw [h2.length]; exact q.val env rfl⟩
    · cases e
      obtain ⟨v, rfl, hx⟩ := hv.one
      obtain ⟨a, xs, rfl, h1, _, h2⟩ := hx.tup env.fh
      exact ⟨a, xs, rfl, .inr (by rw [← hK]; exact h1), by rw [h2.length]; exact q.val env rfl⟩
    · cases e⟩
theorem cbd_abs : CBD G X (.builtin "abs") absF :=
  ⟨_, call_abs, fun {P F H σ Γ ds vs o Q} env hv e q => by
    unfold absF ov at e
    split at e
    · cases e
      obtain ⟨v, rfl, hx⟩ := hv.one
      exact ⟨_, by rw [hx.int], q.val env rfl⟩
    · cases e⟩
theorem cbd_int : CBD G X (.type "int") intF :=
  ⟨_, call_int1, fun {P F H σ Γ ds vs o Q} env hv e q => by
    unfold intF ov at e
    split at e
    · cases e
      obtain ⟨v, rfl, hx⟩ := hv.one
      exact .inl ⟨_, by rw [hx.int], q.val env rfl⟩
    · cases e
      obtain ⟨v, rfl, hx⟩ := hv.one
      exact .inr ⟨_, by rw [hx.bl], q.val env rfl⟩
    · cases e⟩
theorem cbd_list (hK : G.K = X.K) : CBD G X (.type "list") listF :=
  ⟨_, call_list_of, fun {P F H σ Γ ds vs o Q} env hv e q => by
    unfold listF of at e
    split at e
    · cases e
      obtain ⟨v, rfl, hx⟩ := hv.one
      obtain ⟨a, xs, rfl, h1, h2⟩ := hx.lst env.fh
      exact ⟨a, xs, rfl, .inl (SqL.of h1), fun p hp => q.newL env hp h2⟩
    · cases e
      obtain ⟨v, rfl, hx⟩ := hv.one
      obtain ⟨a, xs, rfl, h1, _, h2⟩ := hx.tup env.fh
      exact ⟨a, xs, rfl, .inr (by rw [← hK]; exact h1), fun p hp => q.newL env hp h2⟩
    · cases e⟩
theorem cbd_tuple (hK : G.K = X.K) : CBD G X (.type "tuple") tupleF :=
  ⟨_, call_tupleZ, fun {P F H σ Γ ds vs o Q} env hv e q => by
    unfold tupleF ov at e
    split at e
    · cases e
      obtain ⟨v, rfl, hx⟩ := hv.one
      obtain ⟨a, xs, rfl, h1, h2⟩ := hx.lst env.fh
      exact ⟨a, xs, rfl, .inl ⟨SqL.of h1, fun p ob ho hp => q.newT env hp ho h2⟩⟩
    · cases e
      obtain ⟨v, rfl, hx⟩ := hv.one
      obtain ⟨a, xs, rfl, h1, h3, h2⟩ := hx.tup env.fh
      exact ⟨a, xs, rfl, .inr ⟨by rw [← hK]; exact h1, q.val env ⟨a, xs, rfl, h3, h2⟩⟩⟩
    · cases e⟩
theorem ints_rep {F : Hp} : ∀ {ds : List D} {is : List Int} {xs : List V}, intsOf ds = some is → Reps G F ds xs → xs = is.map V.int
  | [], is, xs, h, r => by
    cases h
    exact r
  | .int i :: ds, is, xs, h, r => by
    obtain ⟨v, r', rfl, h1, h2⟩ := r
    unfold intsOf at h
    cases h3 : intsOf ds with
    | none => rw [h3] at h; cases h
    | some js =>
      rw [h3] at h
      cases h
      rw [ints_rep h3 h2, show v = .int i from h1]
      rfl
  | .non :: _, _, _, h, _ => by cases h
  | .bl _ :: _, _, _, h, _ => by cases h
  | .str _ :: _, _, _, h, _ => by cases h
  | .tup _ :: _, _, _, h, _ => by cases h
  | .lst _ :: _, _, _, h, _ => by cases h
  | .scr _ :: _, _, _, h, _ => by cases h
  | .dK _ :: _, _, _, h, _ => by cases h
  | .dT _ :: _, _, _, h, _ => by cases h
  | .ins _ _ :: _, _, _, h, _ => by cases h
theorem maxI_le : ∀ (m : Int) (xs : List Int), m ≤ maxI m xs ∧ ∀ y ∈ xs, y ≤ maxI m xs
  | m, [] => ⟨Int.le_refl _, fun _ h => by cases h⟩
  | m, x :: r => by
    unfold maxI
    obtain ⟨h1, h2⟩ := maxI_le (if m < x then x else m) r
    refine ⟨?_, fun y hy => ?_⟩
    · split at h1 <;> split <;> first | omega | skip
    · rcases List.mem_cons.mp hy with e | e
      · subst e
        split at h1 <;> split <;> first | omega | skip
      · exact h2 y e
theorem maxI_mem : ∀ (m : Int) (xs : List Int), maxI m xs = m ∨ maxI m xs ∈ xs
  | m, [] => .inl rfl
  | m, x :: r => by
    unfold maxI
    rcases maxI_mem (if m < x then x else m) r with h | h
    · rw [h]
      split
      · exact .inr List.mem_cons_self
      · exact .inl rfl
    · exact .inr (List.mem_cons_of_mem _ h)
theorem maxI_is {m x : Int} {r : List Int} (h1 : m ∈ x :: r) (h2 : ∀ y ∈ x :: r, y ≤ m) : m = maxI x r := by
  obtain ⟨a, b⟩ := maxI_le x r
  have h3 : maxI x r ∈ x :: r := by
    rcases maxI_mem x r with h | h
    · rw [h]; exact
        List.mem_cons_self
    · exact List.mem_cons_of_mem _ h
  have h4 := h2 _ h3
  rcases List.mem_cons.mp h1 with h | h
  · omega
  · have := b m h
    omega
theorem cbd_max (hK : G.K = X.K) (hc : X.calm = true) : CBD G X (.builtin "max") maxF :=
  ⟨_, cr_max hc, fun {P F H σ Γ ds vs o Q} env hv e q => by
    unfold maxF ov at e
    split at e
    · rename_i xs
      cases h : intsOf xs with
      | none => rw [h] at e; cases e
      | some is =>
        rw [h] at e
        cases is with
        | nil => cases e
        | cons x r =>
          cases e
          obtain ⟨v, rfl, hx⟩ := hv.one
          obtain ⟨a, ys, rfl, h1, h2⟩ := hx.lst env.fh
          have hy := ints_rep h h2
          subst hy
          exact ⟨a, x :: r, rfl, SqL.of h1, Nat.succ_pos _, fun m m1 m2 => by rw [maxI_is m1 m2]; exact q.val env rfl⟩
    · cases e⟩

/-! ### max(xs, default=k) -/
theorem depth_ints : ∀ ns : List Int, PyData.depthAll (ns.map PyData.int) = 0
  | [] => rfl
  | n :: r => by
    rw [List.map_cons]
    simp only [PyData.depthAll, PyData.depth, depth_ints r]
    rfl
theorem alike_intsD (ns : List Int) : PySem.W.AlikeAll (ns.map PyData.int) := by
  refine ⟨fun x hx y hy => ?_, fun x hx => ?_⟩
  · obtain ⟨i, _, rfl⟩ := List.mem_map.mp hx
    obtain ⟨j, _, rfl⟩ := List.mem_map.mp hy
    rfl
  · obtain ⟨i, _, rfl⟩ := List.mem_map.mp hx
    intro h
    cases h
theorem dpAll_ints {K : PySem.W.Frag} {H : Hp} : ∀ ns : List Int, DpAll K H (ns.map V.int) (ns.map PyData.int)
  | [] => .nil
  | n :: r => .cons (.int n) (dpAll_ints r)
theorem fold_max : ∀ (r : List Int) (m : Int), r.foldl max m = maxI m r
  | [], _ => rfl
  | x :: r, m => by
    unfold maxI
    rw [List.foldl_cons, fold_max r]
    congr 1
    by_cases h : m < x
    · rw [if_pos h]; omega
    · rw [if_neg h]; omega
def rMaxD (K : PySem.W.Frag) : List V → List V → Hp → VK → Prop := fun vs zs H Q => ∃ (a : Addr) (ns : List Int) (d : V), vs = [.ref a] ∧ zs = [d] ∧ (SqL K H a (ns.map V.int) ∨ SqT K H a (ns.map V.int)) ∧
  (ns = [] → Q d H) ∧ ∀ x r, ns = x :: r → Q (.int (maxI x r)) H
theorem crk_max (hc : X.calm = true) (hu : X.A.units + 64 < cLine) : CallRK X (.builtin "max") [Str.ofString "default"] (rMaxD X.K) := by
  intro pn sh τ Hh vs zs us ws Qk Iv r1 r2 hq
  obtain ⟨a, ns, d, rfl, rfl, hs, q0, q1⟩ := hq
  obtain ⟨u, rfl,
      ru⟩ := vals1 r1
  obtain ⟨w, rfl, rw'⟩ := vals1 r2
  cases ru
  have fin0 : ns.map PyData.int = [] → ∀ h' tk, (∀ b o, sh.heap.get? b = some o → h'.get? b = some o) → EP X pn τ Qk w { sh with heap := h', toks := tk } := fun e h' tk hk =>
    ⟨d, Hh, Iv.kept hk, rw', q0 (List.map_eq_nil_iff.mp e)⟩
  have fin1 : ∀ (y : PyData) (ys : List PyData) (v : Value) h' tk bs, ns.map PyData.int = y :: ys → Reads h' v (PySem.W.maxD y ys) bs → (∀ b o, sh.heap.get? b = some o → h'.get? b = some o) → EP X pn τ Qk v { sh with heap := h', toks := tk } := fun y ys v h' tk bs e hr hk => by
    cases ns with
    | nil => cases e
    | cons x r =>
      rw [List.map_cons] at e
      cases e
      rw [PySem.W.maxD_ints, fold_max] at hr
      cases hr with
      | int i t => exact ⟨.int _, Hh, Iv.kept hk, ⟨t, rfl⟩, q1 x r rfl⟩
  have hun : X.A.units + 1 + PyData.depthAll (ns.map PyData.int) < cLine := by rw [depth_ints]; omega
  rcases hs with hs | hs
  · obtain ⟨its, rv, hl, _⟩ := Iv.list hs
    obtain ⟨as, ra⟩ := Dp.readsAll Iv _ _ _ (dpAll_ints ns) rv
    exact PySem.W.max_list_default (Iv.ok.hd hc) hl.isList (by simpa using ra) (alike_intsD ns) hun fin0 fun y ys _ v h' tk bs e _ hr hk => fin1 y ys v h' tk bs e hr hk
  · obtain ⟨its, rv, hl, _⟩ := Iv.tuple hs
    obtain ⟨as, ra⟩ := Dp.readsAll Iv _ _ _ (dpAll_ints ns) rv
    exact PySem.W.max_tuple_default (Iv.ok.hd hc) hl (by simpa using ra) (alike_intsD ns) hun fin0 fun y ys _ v h' tk bs e _ hr hk => fin1 y ys v h' tk bs e hr hk

/-! ### isinstance(x, T), T a built-in class -/
def tyNames : List String := ["NoneType", "bool", "int", "str", "tuple", "list", "dict"]
def tyName : D → Option String
  | .non => some "NoneType"
  | .bl _ => some "bool"
  | .int _ => some "int"
  | .str _ => some "str"
  | .tup _ => some "tuple"
  | .lst _ => some "list"
  | .scr _ => some "list"
  | _ => none
def tyAns (t a : String) : Bool := decide (a = t) || (decide (a = "bool") && decide (t = "int"))
theorem isTy_name {t : String} {d : D} {b : Bool} (h : isTy t d = some b) : (∃ a, tyName d = some a ∧ a ∈ tyNames ∧ tyAns t a = b) ∨ (∃ c fs, d = .ins c fs) ∨ (∃ k, d = .dK k) ∨ ∃ k, d = .dT k := by
  cases d with
  | non => cases h; exact .inl ⟨_, rfl, by decide, by simp [tyAns, eq_comm]⟩
  | bl x => cases h; exact .inl ⟨_, rfl, by decide, by simp [tyAns, eq_comm]⟩
  | int i => cases h; exact .inl ⟨_, rfl, by decide, by simp [tyAns, eq_comm]⟩
  | str s => cases h; exact .inl ⟨_, rfl, by decide, by simp [tyAns, eq_comm]⟩
  | tup xs => cases h; exact .inl ⟨_, rfl, by decide, by simp [tyAns, eq_comm]⟩
  | lst xs => cases h; exact .inl ⟨_, rfl, by decide, by simp [tyAns, eq_comm]⟩
  | scr xs => cases h; exact .inl ⟨_, rfl, by decide, by simp [tyAns, eq_comm]⟩
  | dK k => exact .inr (.inr (.inl ⟨_, rfl⟩))
  | dT k => exact .inr (.inr (.inr ⟨_, rfl⟩))
  | ins c fs => exact .inr (.inl ⟨_, _, rfl⟩)
theorem sqL_ty {K : PySem.W.Frag} {H : Hp} {a : Addr} {xs : List V} (h : SqL K H a xs) : TyX K H (.ref a) (.type "list") := by
  rcases h with (h | ⟨o, h⟩) | ⟨o, its, n, h1, h2, _⟩
  · exact .base (.lst h)
  · exact .base (.frz h)
  · exact .kList h1 h2
theorem sqT_ty {K : PySem.W.Frag} {H : Hp} {a : Addr} {xs : List V} (h : SqT K H a xs) : TyX K H (.ref a) (.type "tuple") := by
  rcases h with (h | ⟨o, h⟩) | ⟨o, its, n, h1, h2, _⟩
  · exact .base (.tup h)
  · exact .fTuple h
  · exact .kTuple h1 h2
theorem wrep_ty {F H : Hp} {d : D} {v : V} {a : String} (fh : Same F H) (h : WRep G F H d v) (e : tyName d = some a) : TyX G.K H v (.type a) := by
  cases d with
  | non => cases e; rw [h.non]; exact .base .non
  | bl x => cases e; rw [h.bl]; exact .base (.bl _)
  | int x => cases e; rw [h.int]; exact .base (.int _)
  | str x => cases e; rw [h.str]; exact .base (.str _)
  | tup xs => cases e; obtain ⟨p, ys, rfl, h1, _⟩ := h.tup fh; exact sqT_ty h1
  | lst xs => cases e; obtain ⟨p, ys, rfl, h1, _⟩ := h.lst fh; exact sqL_ty (SqL.of h1)
  | scr xs => cases e; obtain ⟨p, ys, rfl, h1, _⟩ := h.scr fh; exact sqL_ty h1
  | dK k => cases e
  | dT k => cases e
  | ins c fs => cases e
/-- what the names of classes answer: by decide +kernel for each T -/
def TyTab (t : String) : Prop := ∀ a ∈ tyNames, kitB a t = some (tyAns t a)
theorem tab_int : TyTab "int" := by intro a h; revert a; decide +kernel
theorem tab_bool : TyTab "bool" := by intro a h; revert a; decide +kernel
theorem tab_tuple : TyTab "tuple" := by intro a h; revert a; decide +kernel
theorem tab_list : TyTab "list" := by intro a h; revert a; decide +kernel
theorem tab_str : TyTab "str" := by intro a h; revert a; decide +kernel
theorem tab_dict : TyTab "dict" := by intro a h; revert a; decide +kernel
theorem cbd_isTy (hK : G.K = X.K) {t : String} (tab : TyTab t) : ∃ r, CallR X (.builtin "isinstance") r ∧
    ∀ {P F H : Hp} {σ : L2.St} {Γ : Env} {d : D} {v : V} {o : Opd} {Q : VK}, EnvOk G P F H σ Γ → WRep G F H d v → isTyF t d = some o → Go G P F σ Γ o Q → r [v, .ty t] H Q :=
  ⟨_, call_isi, fun {P F H σ Γ d v o Q} env hv e q => by
    unfold isTyF at e
    cases h : isTy t d with
    | none => rw [h] at e; cases e
    | some b =>
      rw [h] at e
      cases e
      rcases isTy_name h with ⟨a, h1, h2, h3⟩ | ⟨c, fs, rfl⟩ | ⟨k, rfl⟩ | ⟨k, rfl⟩
      · refine ⟨v, .ty t, .type a, .type t, b, rfl, .ty t, by rw [← hK]; exact wrep_ty env.fh hv h1, kit_ty (h3 ▸ tab a h2), q.val env rfl⟩
      · exact hv.ins.elim
      · exact hv.dK.elim
      · exact hv.dT.elim⟩

/-! ### methods of lists and tuples by data -/
theorem findD_from {y : D} : ∀ {ds : List D} {n j : Nat}, findD y n ds = some j → n ≤ j ∧ ∃ d, ds[j - n]? = some d ∧ eqD d y = true ∧ ∀ (m : Nat) (e : D), m < j - n → ds[m]? = some e → eqD e y = false
  | [], _, _, h => by cases h
  | x :: r, n, j, h => by
    unfold findD at h
    by_cases hx : eqD x y = true
    · rw [if_pos hx] at h
      cases h
      refine ⟨Nat.le_refl _, x, by rw [Nat.sub_self]; rfl, hx, fun m e hm _ => by omega⟩
    · rw [if_neg hx] at h
      obtain ⟨h1, d, h2, h3, h4⟩ := findD_from h
      have e1 : j - n = (j - (n + 1)) + 1 := by omega
      refine ⟨by omega, d, by rw [e1]; simpa using h2, h3, fun m e hm he => ?_⟩
      cases m with
      | zero =>
        have : x = e := by simpa using he
        subst this
        exact Bool.eq_false_iff.mpr hx
      | succ m => exact h4 m e (by omega) (by simpa using he)
/-- tuple.index of flat items -/
def rIndexT (K : PySem.W.Frag) : V → List V → Hp → VK → Prop := fun x xs H Q => ∃ (a : Addr) (ys : List V) (y : V) (j : Nat) (z : V), x = V.ref a ∧ xs = [y] ∧ SqT K H a ys ∧ flatV y = true ∧ ys.all flatV = true ∧ ys[j]? = some z ∧ eqV z y = true ∧
  (∀ (m : Nat) (z' : V),
      m < j → ys[m]? = some z' → eqV z' y = false) ∧ Q (.int (j : Nat)) H
theorem tyok_tup : TyOk X "tuple" (fun x H => ∃ p xs, x = .ref p ∧ TupAt X.K H p xs) := by
  intro pn τ Hh sh x v Iv rx ht
  obtain ⟨p, xs, rfl, h⟩ := ht
  cases rx
  obtain ⟨its, r, ht, hz⟩ := Iv.tuple h.sq
  refine ⟨ht.typeIs, fun b e => ?_⟩
  cases e
  rcases h with ⟨o, h, hd⟩ | ⟨o, its2, n, h1, h2, h3, h4⟩
  · obtain ⟨e1, _⟩ := Iv.hok p _ h
    exact ⟨o, e1, hd⟩
  · exact ⟨o, Iv.kIn p o h1, h3⟩
theorem mt_tupIndex : MtR X "tuple.index" (rIndexT X.K) := by
  intro pn sh τ Hh x xs vx us Qk Iv rx rxs hq
  obtain ⟨a, ys, y, j, z, rfl, rfl, hs, fy, fys, hz, hzj, hno, q⟩ := hq
  cases rx
  obtain ⟨uy, rfl, ry⟩ := vals1 rxs
  obtain ⟨its, rv, ht, hlen⟩ := Iv.tuple hs
  obtain ⟨⟨cls, dd, data, sl⟩,
      ho, hc, n, hd⟩ := id ht
  simp only at hc hd
  subst hc hd
  have hvl := rv.length
  obtain ⟨u, hu,
      ru⟩ := rv.get hz
  obtain ⟨hjl, hje⟩ :=
      List.getElem?_eq_some_iff.mp hu
  have hj : j < its.toArray.size := by rw [List.size_toArray]; exact hjl
  refine call_meets PySem.F.slot_tuple_index ⟨_, ho, rfl⟩ PySem.F.entry_tuple_index (PySem.F.args_tuple_index_2 _ _)
    (PySem.SeqAt.tuple_index2_found a its.toArray n dd sl uy (fun k => match ys[k]? with | some w => eqV w y | none => false) j hj (Nat.zero_le _) hj ?_ ?_) ⟨ho, fun k hk => ?_, ⟨.int j, Hh, Iv.tok _, ⟨_, rfl⟩, q⟩⟩
  · simp only [hz]
    exact hzj
  · intro m hm _ hmj
    cases e : ys[m]? with
    | none => rfl
    | some w => exact hno m w hmj e
  · have hk' : k < ys.length := by rw [hvl, ← List.size_toArray]; exact hk
    have e1 : ys[k]? = some ys[k] := List.getElem?_eq_getElem hk'
    obtain ⟨u2, hu2, ru2⟩ := rv.get e1
    obtain ⟨_, hme⟩ :=
        List.getElem?_eq_some_iff.mp hu2
    have e2 : its.toArray[k] = u2 := by simpa using hme
    rw [e2, e1]
    exact eqAt_V ru2 ry (flat_at fys e1) fy
theorem find_rep {F : Hp} {ds : List D} {vs : List V} {y : D} {vy : V} {j : Nat} (fy : flat y = true) (fs : ds.all flat = true) (r : Reps G F ds vs) (ry : Rep G F y vy) (h : findD y 0 ds = some j) :
    flatV vy = true ∧ vs.all flatV = true ∧ ∃ z, vs[j]? = some z ∧ eqV z vy = true ∧ ∀ (m : Nat) (z' : V), m < j → vs[m]? = some z' → eqV z' vy = false := by
  obtain ⟨_, d, h1, h2, h3⟩ := findD_from h
  rw [Nat.sub_zero] at h1 h3
  obtain ⟨z, hz, rz⟩ := r.get h1
  refine ⟨flat_rep fy ry, flats_rep fs r, z, hz, ?_, fun m z' hm hz' => ?_⟩
  · rw [eqV_rep (List.all_eq_true.mp fs d (List.mem_of_getElem? h1)) fy rz ry]
    exact h2
  · obtain ⟨e, he, re⟩ := r.get' hz'
    rw [eqV_rep (List.all_eq_true.mp fs e (List.mem_of_getElem? he)) fy re ry]
    exact h3 m e hm he
end
end DP

/-! DpRules: expressions and tests. -/
namespace DP
open PySem PySem.Spec
    PyProof.Rows L2

structure Ok (G : Gx) (X : Cx) : Prop where
  K : G.K = X.K
  mg : G.mg = X.mg

section
variable {G : Gx} {W : WX} {P F F1 H : Hp} {σ : L2.St} {Γ : Env} {Q : VK}
theorem Go.ext {o : Opd} (e : Ext P F F1) (h : Go G P F σ Γ o Q) : Go G P F1 σ Γ o Q := fun v F' H' e' env ho => h v F' H' (e.trans e') env ho
theorem GoX.ext {c : Str} {fs : List D} (e : Ext P F F1) (h : GoX G W P F σ Γ c fs) : GoX G W P F1 σ Γ c fs := fun F' H' cls d e' env ho => h F' H' cls d (e.trans e') env ho
/-- what follows an expression's end -/
def EPost (G : Gx) (W : WX) (P F : Hp) (σ : L2.St) (Q : VK) : R Opd → Prop
  | .ok o Γ' => Go G P F σ Γ' o Q
  | .exc c fs Γ' => GoX G W P F σ Γ' c fs
  | .stuck => False
theorem rd_eq {e : E} : rd G W e σ H Q ↔ ∃ P F Γ, EnvOk G P F H σ Γ ∧ EPost G W P F σ Q (e Γ) := by
  unfold rd EPost
  exact Iff.rfl
theorem EPost.ext {r : R Opd} (e : Ext P F F1) (h : EPost G W P F σ Q r) : EPost G W P F1 σ Q r := by
  cases r with
  | ok o Γ' => exact Go.ext e h
  | exc c fs Γ' => exact GoX.ext e h
  | stuck => exact h
/-- a part e of a whole, k what is made of its end -/
theorem rd_bind {e : E} {k : Opd → Env → R Opd} {R0 : VK} (env : EnvOk G P F H σ Γ) (h : EPost G W P F σ Q ((e Γ).bind k))
    (hk : ∀ o Γ1 v F' H', Ext P F F' → EnvOk G P F' H' σ Γ1 → OpdOk G P F' H' σ Γ1 o v → EPost G W P F' σ Q (k o Γ1) → R0 v H') : rd G W e σ H R0 := by
  refine ⟨P, F, Γ, env, ?_⟩
  cases he : e Γ with
  | ok o Γ1 =>
    rw [he] at h
    exact fun v F' H' e' env' ho => hk o Γ1 v F' H' e' env' ho (EPost.ext e' h)
  | exc c fs Γ1 => rw [he] at h; exact h
  | stuck => rw [he] at h; exact h.elim
def TPost (G : Gx) (W : WX) (P F : Hp) (σ : L2.St) (Q : Bool → Hp → Prop) : R Bool → Prop
  | .ok b Γ' => ∀ F' H', Ext P F F' → EnvOk G P F' H' σ Γ' → Q b H'
  | .exc c fs Γ' => GoX G W P F σ Γ' c fs
  | .stuck => False
theorem TPost.ext {r : R Bool} {Q : Bool → Hp → Prop} (e : Ext P F F1) (h : TPost G W P F σ Q r) : TPost G W P F1 σ Q r := by
  cases r with
  | ok b Γ' => exact fun F' H' e' env => h F' H' (e.trans e') env
  | exc c fs Γ' => exact GoX.ext e h
  | stuck => exact h
theorem rdT_bind {α : Type} {e : T} {k : Bool → Env → R α} {Post : Hp → R α → Prop} {R0 : Bool → Hp → Prop} (env : EnvOk G P F H σ Γ) (h : Post F ((e Γ).bind k)) (hs : Post F (.stuck : R α) → False)
    (hx : ∀ c fs Γ1, Post F (.exc c fs Γ1) → GoX G W P F σ Γ1 c fs) (hm : ∀ F' r, Ext P F F' → Post F r → Post F' r)
    (hk : ∀ b Γ1 F' H', Ext P F F' → EnvOk G P F' H' σ Γ1 → Post F' (k b Γ1) → R0 b H') : rdT G W e σ H R0 := by
  refine ⟨P, F, Γ, env, ?_⟩
  cases he : e Γ with
  | ok b Γ1 =>
    rw [he] at h
    exact fun F' H' e' env' => hk b Γ1 F' H' e' env' (hm F' _ e' h)
  | exc c fs Γ1 => rw [he] at h; exact hx c fs Γ1 h
  | stuck => rw [he] at h; exact hs h
/-- an expression within a test or a statement -/
theorem rd_bindG {α : Type} {e : E} {k : Opd → Env → R α} {Post : Hp → R α → Prop} {R0 : VK} (env : EnvOk G P F H σ Γ) (h : Post F ((e Γ).bind k)) (hs : Post F (.stuck : R α) → False)
    (hx : ∀ c fs Γ1, Post F (.exc c fs Γ1) → GoX G W P F σ Γ1 c fs) (hm : ∀ F' r, Ext P F F' → Post F r → Post F' r)
    (hk : ∀ o Γ1 v F' H', Ext P F F' → EnvOk G P F' H' σ Γ1 → OpdOk G P F' H' σ Γ1 o v → Post F' (k o Γ1) → R0 v H') : rd G W e σ H R0 := by
  refine ⟨P, F, Γ, env, ?_⟩
  cases he : e Γ with
  | ok o Γ1 =>
    rw [he] at h
    exact fun v F' H' e' env' ho => hk o Γ1 v F' H' e' env' ho (hm F' _ e' h)
  | exc c fs Γ1 => rw [he] at h; exact hx c fs Γ1 h
  | stuck => rw [he] at h; exact hs h
end

section
variable {G : Gx} {W : WX} {X : Cx} {a b c e o : Expr} {es : List Expr} {pos p apos : Pos} {da db dc : E}

theorem de_var {x : Str} (i : Nat) (hN : X.N[i]? = some x := by rfl) (hv : Vis X.env.scope x := by first | exact Or.inl rfl | exact Or.inr (Or.inl rfl) | exact Or.inr (Or.inr rfl)) (hd : (x == ("__debug__" : Str)) = false := by decide)
    (hcd : (x == ("__classdict__" : Str)) = false := by decide) : PE X (.Name x pos) (rd G W (eV i)) := by
  refine PE_imp (pe_var hN hv hd hcd) fun σ H Q hq => ?_
  obtain ⟨P, F, Γ, env, h⟩ := hq
  unfold eV at h
  cases hs : Γ[i]? with
  | none => rw [hs] at h; exact h.elim
  | some s =>
    rw [hs] at h
    have ok := env.slot i s hs
    cases s with
    | sh d =>
      obtain ⟨x, h1, h2⟩ := ok
      exact ⟨x, h1, Go.val env h h2⟩
    | ow d =>
      obtain ⟨ad, h1, _⟩ := ok
      exact ⟨_, h1, h _ F H (Ext.refl _ _) env ⟨⟨d, by rw [hs]; rfl⟩, h1⟩⟩
    | no => exact h.elim
    | ex c fs => exact h.elim
theorem de_c {d : D} {v : V} (h : PE X e (tC v)) (hr : ∀ F, Rep G F d v) : PE X e (rd G W (eC d)) := by
  refine PE_imp h fun σ H Q hq => ?_
  obtain ⟨P, F, Γ, env, h⟩ := hq
  exact Go.val env h (hr F)
theorem de_int {i : Int} {j : _} : PE X (.Constant (.int i) j pos) (rd G W (eC (.int i))) := de_c pe_int fun _ => rfl
theorem de_bl {i : Bool} {j : _} : PE X (.Constant (.bool i) j pos) (rd G W (eC (.bl i))) := de_c pe_bl fun _ => rfl
theorem de_non {j : _} : PE X (.Constant .none j pos) (rd G W (eC .non)) := de_c pe_non fun _ => rfl
theorem de_str {i : Str} {j : _} : PE X (.Constant (.str i) j pos) (rd G W (eC (.str i))) := de_c pe_str fun _ => rfl

/-! ### two places -/
theorem bin_tr {r : R2} {f : D → D → Option Opd} (hr : ∀ {P F H : Hp} {σ : L2.St} {Γ : Env} {dx dy : D} {x y : V} {o : Opd} {Q : VK}, EnvOk G P F H σ Γ → WRep G F H dx x → WRep G F H dy y → f dx dy = some o → Go G P F σ Γ o Q → r x y H Q)
    (σ : L2.St) (H : Hp) (Q : VK) (hq : rd G W (eBin f da db) σ H Q) : tOp r (rd G W da) (rd G W db) σ H Q := by
  obtain ⟨P, F, Γ, env, h⟩ := hq
  refine rd_bind env h fun o1 Γ1 v1 F1 H1 e1 env1 ho1 h1 => ?_
  obtain ⟨F2, e2, env2, hw, _⟩ := OpdOk.wait env1 ho1
  refine rd_bind env2 (EPost.ext e2 h1) fun o2 Γ2 v2 F3 H3 e3 env3 ho3 h3 => ?_
  cases hx : o1.get Γ2 with
  | none => simp only [hx] at h3; exact h3.elim
  | some dx =>
    cases hy : o2.get Γ2 with
    | none => simp only [hx, hy] at h3; exact h3.elim
    | some dy =>
      simp only [hx, hy] at h3
      cases hf : f dx dy with
      | none => rw [hf] at h3; exact h3.elim
      | some z =>
        rw [hf] at h3
        exact hr env3 (hw _ _ _ _ dx e3.sub env3 hx) (OpdOk.read env3 ho3 hy) hf h3
theorem de_bin {op : Operator} {f : D → D → Option Opd} (ho : OpD G X (binaryOp op) f) (ha : PE X a (rd G W da)) (hb : PE X b (rd G W db)) : PE X (.BinOp a op b pos) (rd G W (eBin f da db)) := by
  obtain ⟨r, h1, h2⟩ := ho
  exact PE_imp (pe_op h1 ha hb) (bin_tr h2)
theorem de_cmp {op : CmpOp} {f : D → D → Option Opd} (ho : OpD G X (compareOp op) f) (ha : PE X a (rd G W da)) (hb : PE X b (rd G W db)) (hm : behindInMarks op b = false := by first | exact nomark _ | rfl) : PE X (.Compare a [op] [b] pos) (rd G W (eBin f da db)) := by
  obtain ⟨r, h1, h2⟩ := ho
  exact PE_imp (pe_cmpR h1 ha hb hm) (bin_tr h2)
theorem de_ix {f : D → D → Option Opd} (ho : IxD G X f) (ha : PE X a (rd G W da)) (hb : PE X b (rd G W db)) (hs : PlainIx b := by exact fun _ _ => rfl) : PE X (.Subscript a b pos) (rd G W (eBin f da db)) := by
  obtain ⟨r, h1, h2⟩ := ho
  exact PE_imp (pe_ix h1 ha hb hs) (bin_tr h2)
theorem un_tr {f : D → Option Opd} {r : V → Hp → VK → Prop} (hr : ∀ {P F H : Hp} {σ : L2.St} {Γ : Env} {dx : D} {x : V} {o : Opd} {Q : VK}, EnvOk G P F H σ Γ → WRep G F H dx x → f dx = some o → Go G P F σ Γ o Q → r x H Q)
    (σ : L2.St) (H : Hp) (Q : VK) (hq : rd G W (eUn f da) σ H Q) : tUn r (rd G W da) σ H Q := by
  obtain ⟨P, F, Γ, env, h⟩ := hq
  refine rd_bind env h fun o1 Γ1 v1 F1 H1 e1 env1 ho1 h1 => ?_
  cases hx : o1.get Γ1 with
  | none => simp only [hx] at h1; exact h1.elim
  | some dx =>
    simp only [hx] at h1
    cases hf : f dx with
    | none => rw [hf] at h1; exact h1.elim
    | some z =>
      rw [hf] at h1
      exact hr env1 (OpdOk.read env1 ho1 hx) hf h1
theorem wrep_isNon {F H : Hp} {d : D} {v : V} (h : WRep G F H d v) : decide (v = .non) = isNon d := by
  cases d with
  | non => rw [h.non]; rfl
  | bl x => rw [h.bl]; exact decide_eq_false (fun z => nomatch z)
  | int x => rw [h.int]; exact decide_eq_false (fun z => nomatch z)
  | str x => rw [h.str]; exact decide_eq_false (fun z => nomatch z)
  | tup xs =>
    rcases h with ⟨p, ys, rfl, _⟩ | ⟨p, rfl, _⟩ <;> exact decide_eq_false (fun z => nomatch z)
  | lst xs =>
    rcases h with ⟨p, ys, rfl, _⟩ | ⟨p, rfl, _⟩ <;> exact decide_eq_false (fun z => nomatch z)
  | scr xs =>
    rcases h with ⟨p, ys, rfl, _⟩ | ⟨p, rfl, _⟩ <;> exact decide_eq_false (fun z => nomatch z)
  | dK k => exact h.dK.elim
  | dT k => exact h.dT.elim
  | ins c fs => exact h.ins.elim
theorem de_isN {j : _} {p' : Pos} (ha : PE X a (rd G W da)) : PE X (.Compare a [.Is] [.Constant .none j p'] pos) (rd G W (eUn isNF da)) := by
  refine PE_imp (pe_cmp (pc_isN ha) rfl) (un_tr (r := fun x H Q => Q (.bl (decide (x = .non))) H) fun {P F H σ Γ dx x o Q} env hw hf q => ?_)
  cases hf
  rw [wrep_isNon hw]
  exact q.val env rfl
theorem de_notN {j : _} {p' : Pos} (ha : PE X a (rd G W da)) : PE X (.Compare a [.IsNot] [.Constant .none j p'] pos) (rd G W (eUn isNotNF da)) := by
  refine PE_imp (pe_cmp (pc_notN ha) rfl) (un_tr (r := fun x H Q => Q (.bl (!decide (x = .non))) H) fun {P F H σ Γ dx x o Q} env hw hf q => ?_)
  cases hf
  rw [wrep_isNon hw]
  exact q.val env rfl
theorem de_neg (ha : PE X a (rd G W da)) : PE X (.UnaryOp .USub a pos) (rd G W (eUn negF da)) := by
  refine PE_imp (pe_un un_neg ha) (un_tr fun {P F H σ Γ dx x o Q} env hw hf q => ?_)
  unfold negF ov at hf
  split at hf
  · cases hf
    exact ⟨_, hw.int, q.val env rfl⟩
  · cases hf

/-! ### arguments -/
theorem da_nil : PA X [] (rdA G W aNil) := by
  refine PA_imp pa_nil fun σ H Q hq => ?_
  obtain ⟨P, F, Γ, env, h⟩ := hq
  exact h [] F H (Ext.refl _ _) env rfl
def APost (G : Gx) (W : WX) (P F : Hp) (σ : L2.St) (Q : List V → Hp → Prop) : R (List Opd) → Prop
  | .ok os Γ' => ∀ vs F' H', Ext P F F' → EnvOk G P F' H' σ Γ' → WOpds G F' σ os vs → Q vs H'
  | .exc c fs Γ' => GoX G W P F σ Γ' c fs
  | .stuck => False
theorem APost.ext {P F F1 : Hp} {σ : L2.St} {Q : List V → Hp → Prop} {r : R (List Opd)} (e : Ext P F F1) (h : APost G W P F σ Q r) : APost G W P F1 σ Q r := by
  cases r with
  | ok b Γ' => exact fun vs F' H' e' env => h vs F' H' (e.trans e') env
  | exc c fs Γ' => exact GoX.ext e h
  | stuck => exact h
theorem wopd_of {P F H : Hp} {σ : L2.St} {Γ : Env} {o : Opd} {v : V} (env : EnvOk G P F H σ Γ) (ho : OpdOk G P F H σ Γ o v) : ∃ F1, Ext P F F1 ∧ EnvOk G P F1 H σ Γ ∧
    ∀ F2, Same F1 F2 → ((∃ d, o.str = some d ∧ Rep G F2 d v) ∨ ∃ i, o = .own i ∧ σ[i]? = some (some v)) := by
  cases o with
  | val d => exact ⟨F, Ext.refl _ _, env, fun F2 e => .inl ⟨d, rfl, Rep.mono e ho⟩⟩
  | fresh d =>
    obtain ⟨F1, e1, h1, r1⟩ := OpdOk.strong env ho rfl
    exact ⟨F1, e1, h1, fun F2 e => .inl ⟨d, rfl, r1.mono e⟩⟩
  | own i => exact ⟨F, Ext.refl _ _, env, fun F2 e => .inr ⟨i, rfl, ho.2⟩⟩
theorem da_cons {ta : As} (ha : PE X e (rd G W da)) (hr : PA X es (rdA G W ta)) (hs : starEach (e :: es) X.env = (false, eval e X.env) :: starEach es X.env := by rfl) : PA X (e :: es) (rdA G W (aCons da ta)) := by
  refine PA_imp (pa_cons ha hr hs) fun σ H Q hq => ?_
  obtain ⟨P, F, Γ, env, h⟩ := hq
  have h : APost G W P F σ Q ((da Γ).bind fun x Γ1 => (ta Γ1).bind fun xs Γ2 => .ok (x :: xs) Γ2) := h
  refine rd_bindG (Post := fun F r => APost G W P F σ Q r) env h (fun z => z) (fun _ _ _ z => z) (fun _ _ e z => z.ext e) fun o1 Γ1 v1 F1 H1 e1 env1 ho1 h1 => ?_
  obtain ⟨F2, e2, env2, hw⟩ := wopd_of env1 ho1
  refine ⟨P, F2, Γ1, env2, ?_⟩
  have h2 := APost.ext e2 h1
  cases ht : ta Γ1 with
  | ok os Γ2 =>
    rw [ht] at h2
    exact fun vs F' H' e' env' ho' => h2 (v1 :: vs) F' H' e' env' ⟨v1, vs, rfl, hw F' e'.sub, ho'⟩
  | exc c fs Γ2 => rw [ht] at h2; exact h2
  | stuck => rw [ht] at h2; exact h2.elim
theorem WOpds.reads {P F H : Hp} {σ : L2.St} {Γ : Env} (env : EnvOk G P F H σ Γ) : ∀ {os : List Opd} {vs : List V} {ds : List D}, WOpds G F σ os vs → gets Γ os = some ds → WReps G F H ds vs
  | [], _, _, h, g => by
    cases g
    exact h
  | o :: os, _, _, h, g => by
    obtain ⟨v, r, rfl, h1, h2⟩ := h
    unfold gets at g
    cases ho : o.get Γ with
    | none => rw [ho] at g; cases g
    | some d =>
      cases hg : gets Γ os with
      | none => rw [ho, hg] at g; cases g
      | some ds =>
        rw [ho, hg] at g
        cases g
        refine ⟨v, r, rfl, ?_, WOpds.reads env h2 hg⟩
        rcases h1 with ⟨d', e1, e2⟩ | ⟨i, rfl, e1⟩
        · have : o.get Γ = some d' := by
            cases o with
            | val z => exact e1
            | fresh z => exact e1
            | own i => cases e1
          rw [ho] at this
          cases this
          exact .inl e2
        · exact OpdOk.read (o := .own i) env ⟨⟨d, ho⟩, e1⟩ ho
theorem WOpds.strong {F : Hp} {σ : L2.St} : ∀ {os : List Opd} {vs : List V} {ds : List D}, WOpds G F σ os vs → strsD os = some ds → Reps G F ds vs
  | [], _, _, h, g => by
    cases g
    exact h
  | o :: os, _, _, h, g => by
    obtain ⟨v, r, rfl, h1, h2⟩ := h
    unfold strsD at g
    cases ho : o.str with
    | none => rw [ho] at g; cases g
    | some d =>
      cases hg : strsD os with
      | none => rw [ho, hg] at g; cases g
      | some ds =>
        rw [ho, hg] at g
        cases g
        refine ⟨v, r, rfl, ?_, WOpds.strong h2 hg⟩
        rcases h1 with ⟨d', e1, e2⟩ | ⟨i, rfl, e1⟩
        · rw [ho] at e1
          cases e1
          exact e2
        · cases ho
/-- what follows arguments -/
theorem rdA_bind {t : As} {k : List Opd → Env → R Opd} {R0 : List V → Hp → Prop} {P F H : Hp} {σ : L2.St} {Γ : Env} {Q : VK} (env : EnvOk G P F H σ Γ) (h : EPost G W P F σ Q ((t Γ).bind k))
    (hk : ∀ os Γ1 vs F' H', Ext P F F' → EnvOk G P F' H' σ Γ1 → WOpds G F' σ os vs → EPost G W P F' σ Q (k os Γ1) → R0 vs H') : rdA G W t σ H R0 := by
  refine ⟨P, F, Γ, env, ?_⟩
  cases he : t Γ with
  | ok os Γ1 =>
    rw [he] at h
    exact fun vs F' H' e' env' ho => hk os Γ1 vs F' H' e' env' ho (EPost.ext e' h)
  | exc c fs Γ1 => rw [he] at h; exact h
  | stuck => rw [he] at h; exact h.elim

/-! ### built-ins called, displays -/
theorem cb_tr {r : List V → Hp → VK → Prop} {f : List D → Option Opd} {t : As} (hr : ∀ {P F H : Hp} {σ : L2.St} {Γ : Env} {ds : List D} {vs : List V} {o : Opd} {Q : VK}, EnvOk G P F H σ Γ → WReps G F H ds vs → f ds = some o → Go G P F σ Γ o Q → r vs H Q)
    (σ : L2.St) (H : Hp) (Q : VK) (hq : rd G W (eCB f t) σ H Q) : tCB r (rdA G W t) σ H Q := by
  obtain ⟨P, F, Γ, env, h⟩ := hq
  refine rdA_bind env h fun os Γ1 vs F1 H1 e1 env1 ho h1 => ?_
  cases hg : gets Γ1 os with
  | none => simp only [hg] at h1; exact h1.elim
  | some ds =>
    simp only [hg] at h1
    cases hf : f ds with
    | none => rw [hf] at h1; exact h1.elim
    | some z =>
      rw [hf] at h1
      exact hr env1 (ho.reads env1 hg) hf h1
theorem de_cb {x : Str} {id : String} {f : List D → Option Opd} {t : As} (hc : CBD G X (.builtin id) f) (hg : Gl X x) (hm : X.mg x = none) (hv : bootBuiltins x = some (.builtin id)) (ha : PA X (e :: es) (rdA G W t)) (hn : x ≠ "__name__" := by decide) (hdb : (x == ("__debug__" : Str)) = false := by decide)
    (he : starEach (e :: es) X.env = (false, eval e X.env) :: starEach es X.env := by rfl) (hpl : (backTo pos (starEach es X.env)).any (·.1) = false := by rfl) : PE X (.Call (.Name x p) (e :: es) [] pos) (rd G W (eCB f t)) := by
  obtain ⟨r, h1, h2⟩ := hc
  exact PE_imp (pe_callB h1 hg hm hv ha hn hdb he hpl) (cb_tr h2)
theorem de_cty {x : Str} {id : String} {f : List D → Option Opd} {t : As} (hc : CBD G X (.type id) f) (hg : Gl X x) (hm : X.mg x = none) (hv : bootBuiltins x = some (.type id)) (ha : PA X (e :: es) (rdA G W t)) (hn : x ≠ "__name__" := by decide) (hdb : (x == ("__debug__" : Str)) = false := by decide)
    (he : starEach (e :: es) X.env = (false, eval e X.env) :: starEach es X.env := by rfl) (hpl : (backTo pos (starEach es X.env)).any (·.1) = false := by rfl) : PE X (.Call (.Name x p) (e :: es) [] pos) (rd G W (eCB f t)) := by
  obtain ⟨r, h1, h2⟩ := hc
  exact PE_imp (pe_callTy h1 hg hm hv ha hn hdb he hpl) (cb_tr h2)
theorem de_tup {x1 : _} {t : As} (ha : PA X es (rdA G W t)) : PE X (.Tuple es x1 pos) (rd G W (eTup t)) := by
  refine PE_imp (pe_tupZ ha) fun σ H Q hq => ?_
  obtain ⟨P, F, Γ, env, h⟩ := hq
  refine rdA_bind env h fun os Γ1 vs F1 H1 e1 env1 ho h1 => ?_
  cases hg : strsD os with
  | none => simp only [hg] at h1; exact h1.elim
  | some ds =>
    simp only [hg] at h1
    split at h1
    · rename_i hl
      have r := ho.strong hg
      exact ⟨by rw [r.length]; exact line_le hl, fun p ob hob hp => Go.newT env1 h1 hp hob r⟩
    · exact h1.elim
theorem de_lst {t : As} (ha : PA X es (rdA G W t)) : PE X (.List es pos) (rd G W (eLst t)) := by
  refine PE_imp (pe_lst ha) fun σ H Q hq => ?_
  obtain ⟨P, F, Γ, env, h⟩ := hq
  refine rdA_bind env h fun os Γ1 vs F1 H1 e1 env1 ho h1 => ?_
  cases hg : strsD os with
  | none => simp only [hg] at h1; exact h1.elim
  | some ds =>
    simp only [hg] at h1
    split at h1
    · rename_i hl
      have r := ho.strong hg
      exact ⟨by rw [r.length]; exact line_le hl, fun p hp => Go.newL env1 h1 hp r⟩
    · exact h1.elim
end
end DP

/-! DpRules2: isinstance, slices, calls of defs, methods, truth values, tests. -/
namespace DP
open PySem PySem.Spec
    PyProof.Rows L2

section
variable {G : Gx} {W : WX} {X : Cx} {a b c e o : Expr} {es : List Expr} {pos p apos cpos p2 : Pos} {da db dc : E}

/-! ### isinstance of a built-in class; max with a default -/
theorem de_isTy {T : Str} {t : String} {pT : Pos} (ok : Ok G X) (tab : TyTab t) (hg : Gl X "isinstance") (hm : X.mg "isinstance" = none) (hgT : Gl X T) (hmT : X.mg T = none) (hvT : bootBuiltins T = some (.type t)) (ha : PE X a (rd G W da))
    (hnT : T ≠ "__name__" := by decide) (hdT : (T == ("__debug__" : Str)) = false := by decide)
    (he : starEach (a :: [.Name T pT]) X.env = (false, eval a X.env) :: starEach [.Name T pT] X.env := by rfl) (he2 : starEach [.Name T pT] X.env = (false, eval (.Name T pT) X.env) :: starEach [] X.env := by rfl) (hpl : (backTo pos (starEach [.Name T pT] X.env)).any (·.1) = false := by rfl) :
    PE X (.Call (.Name "isinstance" p) [a, .Name T pT] [] pos) (rd G W (eUn (isTyF t) da)) := by
  obtain ⟨r, h1, h2⟩ := cbd_isTy (G := G) ok.K tab
  have hT : PE X (.Name T pT) (tC (.ty t)) := pe_bltn hgT hmT hvT rfl hnT hdT
  exact PE_imp (pe_callB h1 hg hm (by decide +kernel) (pa_cons ha (pa_cons hT pa_nil he2) he) (by decide) (by decide) he hpl) (un_tr (r := fun x H Q => r [x, .ty t] H Q) h2)
theorem kw_tr {f : D → D → Option Opd} {r : List V → List V → Hp → VK → Prop} (hr : ∀ {P F H : Hp} {σ : L2.St} {Γ : Env} {dx dy : D} {x y : V} {o : Opd} {Q : VK}, EnvOk G P F H σ Γ → WRep G F H dx x → WRep G F H dy y → f dx dy = some o → Go G P F σ Γ o Q → r [x] [y] H Q)
    (σ : L2.St) (H : Hp) (Q : VK) (hq : rd G W (eBin f da db) σ H Q) : tCKw r (tCons (rd G W da) tNil) (tCons (rd G W db) tNil) σ H Q :=
  bin_tr (r := fun x y H Q => r [x] [y] H Q) hr σ H Q hq
theorem de_maxD {nm : Str} {pk : Pos} (ok : Ok G X) (hc : X.calm = true) (hu : X.A.units + 64 < cLine) (hg : Gl X "max") (hm : X.mg "max" = none) (ha : PE X a (rd G W da)) (hb : PE X b (rd G W db)) (hnm : nm = "default" := by rfl)
    (hs : starEach (a :: []) X.env = (false, eval a X.env) :: starEach [] X.env := by rfl)
    (he : backTo pos (starEach (a :: []) X.env) = (false, eval a X.env) :: backTo pos (starEach [] X.env) := by rfl) (hpl : (backTo pos (starEach (a :: []) X.env)).any (·.1) = false := by rfl)
    (hall : (backToKw pos (keywordEach [⟨some nm, b, pk⟩] X.env)).all (·.1.isSome) = true := by rfl) (hnone : (backToKw pos (keywordEach [⟨some nm, b, pk⟩] X.env)).any (·.1.isNone) = false := by rfl) (hks : (backToKw pos (keywordEach [⟨some nm, b, pk⟩] X.env)).filterMap (·.1) = [nm] := by rfl)
    (hpk : PK X [⟨some nm, b, pk⟩] (tCons (rd G W db) tNil)) : PE X (.Call (.Name "max" p) [a] [⟨some nm, b, pk⟩] pos) (rd G W (eBin maxDF da db)) := by
  subst hnm
  refine PE_imp (pe_callBK (crk_max hc hu) hg hm (by decide +kernel) (pa_cons ha pa_nil hs) hpk (by decide) (by decide) he hpl hall hnone hks) (kw_tr fun {P F H σ Γ dx dy x y o Q} env hx hy e q => ?_)
  have fin : ∀ (ad : Addr) (is : List Int) (r : Option Opd), (SqL X.K H ad (is.map V.int) ∨ SqT X.K H ad (is.map V.int)) → x = .ref ad →
      (match some is with | some (x :: r) => ov (.int (maxI x r)) | some [] => if flat dy then ov dy else none | _ => none) = some o → rMaxD X.K [x] [y] H Q := fun ad is r hs hxr e => by
    subst hxr
    cases is with
    | nil =>
      have e : (if flat dy then ov dy else none) = some o := e
      split at e
      · rename_i hf
        cases e
        exact ⟨ad, [], y, rfl, rfl, hs, fun _ => q.val env (hy.flat hf), fun _ _ z => by cases z⟩
      · cases e
    | cons i r =>
      cases e
      exact ⟨ad, i :: r, y, rfl, rfl, hs, fun z => (by cases z), fun _ _ z => by cases z; exact q.val env rfl⟩
  cases dx with
  | lst xs =>
    obtain ⟨ad, ys, hxr, h1, h2⟩ := hx.lst env.fh
    unfold maxDF at e
    simp only at e
    cases h : intsOf xs with
    | none => rw [h] at e; cases e
    | some is =>
      rw [h] at e
      have hy' := ints_rep h h2
      subst hy'
      exact fin ad is none (.inl (SqL.of h1)) hxr e
  | tup xs =>
    obtain ⟨ad, ys, hxr, h1, _, h2⟩ := hx.tup env.fh
    unfold maxDF at e
    simp only at e
    cases h : intsOf xs with
    | none => rw [h] at e; cases e
    | some is =>
      rw [h] at e
      have hy' := ints_rep h h2
      subst hy'
      exact fin ad is none (.inr (by rw [← ok.K]; exact h1)) hxr e
  | _ => cases e

/-! ### slices -/
theorem do_no : PO X none (fun σ H Q => ∃ P F Γ, EnvOk G P F H σ Γ ∧ ∀ F' H', Ext P F F' → EnvOk G P F' H' σ Γ → Q none H') := by
  refine ⟨fun pins s σ H Q I h =>
      ?_⟩
  obtain ⟨P, F, Γ, env, h⟩ := h
  exact (po_none (X := X)).run pins s σ H Q I (h F H (Ext.refl _ _) env)
/-- a part of a slice -/
def rdP (G : Gx) (W : WX) (t : Env → R (Option Int)) : TO := fun σ H Q => ∃ P F Γ, EnvOk G P F H σ Γ ∧ match t Γ with
  | .ok i Γ' => ∀ F' H', Ext P F F' → EnvOk G P F' H' σ Γ' → Q i H'
  | .exc c fs Γ' => GoX G W P F σ Γ' c fs
  | .stuck => False
theorem PO_imp {eo : Option Expr} {t t' : TO} (h : PO X eo t) (f : ∀ σ H Q, t' σ H Q → t σ H Q) : PO X eo t' := ⟨fun pins s σ H Q I hq => h.run pins s σ H Q I (f σ H Q hq)⟩
theorem dp_no : PO X none (rdP G W pNo) := by
  refine PO_imp po_none fun σ H Q hq => ?_
  obtain ⟨P, F, Γ, env, h⟩ := hq
  exact h F H (Ext.refl _ _) env
theorem dp_e (ha : PE X a (rd G W da)) : PO X (some a) (rdP G W (pE da)) := by
  refine PO_imp (po_some ha) fun σ H Q hq => ?_
  obtain ⟨P, F, Γ, env, h⟩ := hq
  refine ⟨P, F, Γ, env, ?_⟩
  unfold pE at h
  cases he : da Γ with
  | ok o Γ1 =>
    rw [he] at h
    intro v F' H' e' env' ho
    cases o with
    | val d =>
      cases d with
      | int i => exact ⟨i, ho, h F' H' e' env'⟩
      | _ => exact h.elim
    | fresh d => exact h.elim
    | own j => exact h.elim
  | exc c fs Γ1 => rw [he] at h; exact h
  | stuck => rw [he] at h; exact h.elim
theorem de_sl {f : D → Option Int → Option Int → Option Opd} {lo hi : Option Expr} {dl dh : Env → R (Option Int)} (hs : SlD G X f) (ha : PE X a (rd G W da)) (hl : PO X lo (rdP G W dl)) (hh : PO X hi (rdP G W dh)) : PE X (.Subscript a (.Slice lo hi none p2) pos) (rd G W (eSl f da dl dh)) := by
  obtain ⟨r, h1, h2⟩ := hs
  refine PE_imp (pe_slice h1 ha hl hh) fun σ H Q hq => ?_
  obtain ⟨P, F, Γ, env, h⟩ := hq
  refine rd_bind env h fun o1 Γ1 v1 F1 H1 e1 env1 ho1 q1 => ?_
  obtain ⟨F2, e2, env2, hw, _⟩ := OpdOk.wait env1 ho1
  have q2 := EPost.ext e2 q1
  refine ⟨P, F2, Γ1, env2, ?_⟩
  cases hl' : dl Γ1 with
  | exc c fs Γ2 => rw [hl'] at q2; exact q2
  | stuck => rw [hl'] at q2; exact q2.elim
  | ok l Γ2 =>
    rw [hl'] at q2
    intro F3 H3 e3 env3
    have q3 := EPost.ext e3 q2
    refine ⟨P, F3, Γ2, env3, ?_⟩
    dsimp only [R.bind] at q3
    cases hh' : dh Γ2 with
    | exc c fs Γ3 => rw [hh'] at q3; exact q3
    | stuck => rw [hh'] at q3; exact q3.elim
    | ok u Γ3 =>
      rw [hh'] at q3
      intro F4 H4 e4 env4
      have q4 := EPost.ext e4 q3
      dsimp only [R.bind] at q4
      cases hx : o1.get Γ3 with
      | none => simp only [hx] at q4; exact q4.elim
      | some dx =>
        simp only [hx] at q4
        cases hf : f dx l u with
        | none => rw [hf] at q4; exact q4.elim
        | some z =>
          rw [hf] at q4
          exact h2 env4 (hw _ _ _ _ dx (e3.sub.trans e4.sub) env4 hx) hf q4

/-! ### list(range(..)), tuple(range(..)) -/
theorem rg_rep {F : Hp} (lo hi : Int) : Reps G F (zInts lo (hi - lo).toNat) (rgV lo hi) := by
  have key : ∀ (n : Nat) (l : Int), Reps G F (zInts l n) ((List.range n).map fun i => V.int (l + (i : Nat))) := by
    intro n
    induction n with
    | zero => intro l; rfl
    | succ n ih =>
      intro l
      rw [List.range_succ_eq_map,
          List.map_cons, List.map_map]
      refine ⟨_, _, rfl, by simp [Rep], ?_⟩
      have e : ((fun i : Nat => V.int (l + (i : Nat))) ∘ Nat.succ) = fun i : Nat => V.int (l + 1 + (i : Nat)) := by
        funext i
        show V.int (l + ((i + 1 : Nat) : Int)) = V.int (l + 1 + (i : Int))
        congr 1
        omega
      rw [e]
      exact ih (l + 1)
  exact key _ lo
theorem rgOk_of {a b : Int} (h : rgOk a b = true) : RgOk a b := by
  unfold rgOk inLine at h
  simp only [Bool.and_eq_true,
      decide_eq_true_eq] at h
  obtain ⟨⟨⟨h1, h2⟩, h3, h4⟩, h5⟩ := h
  exact ⟨h1, h2, h3, h4, by omega⟩
theorem rg_tr {f : Int → Int → Option Opd} {k : Int → Int → Hp → VK → Prop} (hr : ∀ {P F H : Hp} {σ : L2.St} {Γ : Env} {i j : Int} {o : Opd} {Q : VK}, EnvOk G P F H σ Γ → f i j = some o → Go G P F σ Γ o Q → k i j H Q)
    (σ : L2.St) (H : Hp) (Q : VK) (hq : rd G W (eRg f da db) σ H Q) : rd G W da σ H fun x H1 => rd G W db σ H1 fun y H2 => ∃ i j, x = .int i ∧ y = .int j ∧ k i j H2 Q := by
  obtain ⟨P, F, Γ, env, h⟩ := hq
  refine rd_bind env h fun o1 Γ1 v1 F1 H1 e1 env1 ho1 h1 => ?_
  obtain ⟨F2, e2, env2, hw, hst⟩ := OpdOk.wait env1 ho1
  refine rd_bind env2 (EPost.ext e2 h1) fun o2 Γ2 v2 F3 H3 e3 env3 ho3 h3 => ?_
  cases o1 with
  | fresh d => exact h3.elim
  | own i => exact h3.elim
  | val d =>
    cases d with
    | int i =>
      cases o2 with
      | fresh d => exact h3.elim
      | own i => exact h3.elim
      | val d2 =>
        cases d2 with
        | int j =>
          cases hf : f i j with
          | none => simp only [hf] at h3; exact h3.elim
          | some z =>
            simp only [hf] at h3
            exact ⟨i, j, hst F3 _ e3.sub rfl, ho3, hr env3 hf h3⟩
        | _ => exact h3.elim
    | _ => exact h3.elim
/-- list(range(a, b)) -/
theorem de_listRg (hc : X.calm = true) (hg : Gl X "list") (hm : X.mg "list" = none) (hr : PRg X e (tRg2 (rd G W da) (rd G W db)))
    (na : starEach [e] X.env = (false, eval e X.env) :: starEach [] X.env := by rfl) : PE X (.Call (.Name "list" p) [e] [] pos) (rd G W (eRg listRgF da db)) := by
  refine PE_imp (pe_listRg hc hg hm hr na) fun σ H Q hq => ?_
  refine rg_tr (k := fun i j H Q => RgOk i j ∧ ∀ q, H q = none → Q (.ref q) (upd H q (.lst (rgV i j)))) (fun {P F H σ Γ i j o Q} env hf q => ?_) σ H Q hq
  unfold listRgF of at hf
  split at hf
  · rename_i h
    cases hf
    exact ⟨rgOk_of h, fun p hp => q.newL env hp (rg_rep i j)⟩
  · cases hf
/-- a range a, a + c, .. as an argument -/
def PRC (X : Cx) (e : Expr) (c : Int) (t : L2.St → Hp → (Int → Int → Hp → Prop) → Prop) : Prop :=
  ∀ (pins : List (Addr × Obj)) (s : Shared) (σ : L2.St) (H : Hp) (Q : Int → Int → Hp → Prop), Inv X pins σ H s → t σ H Q →
    wpAny (model X.prog X.w) X.A (eval e X.env) (fun x s' => ∃ r a b t u v H', x = .ref r ∧ IsRange s'.heap r a b c t u v ∧ Inv X pins σ H' s' ∧ Q a b H') X.xe s
theorem prc_2 {t : L2.St → Hp → (Int → Int → Hp → Prop) → Prop} (h : PRg X e t) : PRC X e 1 t := h
/-- range(a, b, c), c written -/
theorem prc_3 {pr : Pos} {ta tb : TE} {cc : Int} (hg : Gl X "range") (hm : X.mg "range" = none) (ha : PE X a ta) (hb : PE X b tb) (hcc : PE X c (tC (.int cc))) (h0 : cc ≠ 0) (h1 : cc.natAbs < 1073741824)
    (hs : starEach [a, b, c] X.env = (false, eval a X.env) :: starEach [b, c] X.env := by rfl) (hs2 : starEach [b, c] X.env = (false, eval b X.env) :: starEach [c] X.env := by rfl) (hs3 : starEach [c] X.env = (false, eval c X.env) :: starEach [] X.env := by rfl)
    (hpl : (backTo pos (starEach [b, c] X.env)).any (·.1) = false := by rfl) : PRC X (.Call (.Name "range" pr) [a, b, c] [] pos) cc (tRg2 ta tb) := by
  intro pn sh τ Hh Qk Iv hq
  refine Call_ (ld_blt Iv hg hm boot_range (PyProof.Rows.callWith_type1 (args_cons (thn (ha.run pn sh τ Hh _ Iv hq) fun v s1 ⟨x, H1, I1, r1, q1⟩ => args_cons (thn (hb.run pn s1 τ H1 _ I1 q1) fun u s2 ⟨y, H2, I2, r2, q2⟩ =>
    one_arg hcc (R := fun z H3 => z = .int cc ∧ H3 = H2) I2 ⟨rfl, rfl⟩ (fun w' s3 z H3 I3 r3 q3 => ?_) hs3) hs2) hs) hs hpl))
  obtain ⟨i, j, rfl, rfl, q⟩ := q2
  obtain ⟨rfl, rfl⟩ := q3
  obtain ⟨t, rfl⟩ := r1
  obtain ⟨t', rfl⟩ := r2
  obtain ⟨t'', rfl⟩ := r3
  exact call_range_3 h0 ⟨_, i, j, _, _, _, H3, rfl, IsRange.new _ _ _ _ _ _ _, I3.kept fun b u e => Heap.get?_push_of_some _ e, q⟩ (.inl (PyProof.noPylong_small h1))
/-- tuple of a range -/
theorem pe_tupRgC {cc : Int} {te : L2.St → Hp → (Int → Int → Hp → Prop) → Prop} (hc : X.calm = true) (hg : Gl X "tuple") (hm : X.mg "tuple" = none) (hr : PRC X e cc te) (na : starEach [e] X.env = (false, eval e X.env) :: starEach [] X.env := by rfl) :
    PE X (.Call (.Name "tuple" p) [e] [] pos) (fun σ H Q => te σ H fun i j H1 => ∃ n : Nat, Builtin.Range.small i j cc = true ∧ Builtin.Range.rangeSize i j cc = n ∧ n ≤ 2 ^ 24 ∧
      ∀ (q : Addr) (ob : Obj), ob.dict = none → H1 q = none → Q (.ref q) (upd H1 q (.frz ob (.tup ((List.range n).map fun m => V.int (i + (m : Nat) * cc)))))) := by
  refine ⟨fun pn sh τ Hh Qk Iv hq => ?_⟩
  refine Call_ (ld_blt Iv hg hm boot_tuple (PyProof.Rows.callWith_type1 (args_cons (thn (hr pn sh τ Hh _ Iv hq) fun x s1 ⟨r, i, j, t, u, v, H1, ex, hrg, I1, n, b1, b2, b3, q⟩ => args_nil ?_) na) na))
  subst ex
  refine call_tuple_range (n := n) (I1.ok.hd hc) hrg b1 b2 b3 fun h' tk acc hk hi => ?_
  have I2 : Inv X pn τ H1 { s1 with heap := h', toks := tk } := I1.kept hk
  have hv : Vals ((List.range n).map fun m => V.int (i + (m : Nat) * cc)) acc.toList := by
    have e1 : acc.toList.length = n := by rw [Array.length_toList]; exact hi.1
    rw [← e1]
    refine vals_of_get acc.toList _ fun m w hw => ?_
    obtain ⟨tt, rfl⟩ := hi.2 m w (by rw [← hw, Array.getElem?_toList])
    exact ⟨tt, rfl⟩
  have hz : ((List.range n).map fun m => V.int (i + (m : Nat) * cc)).length ≤ sizeLine := by
    rw [List.length_map, List.length_range, sizeLine_eq]
    omega
  have J := laidZ (t' := tk) I2 hv hz
  rw [Array.toArray_toList] at J
  exact ⟨.ref h'.objs.size, _, J, rfl, q _ _ rfl (I2.hok.fresh (Nat.le_refl _))⟩
theorem step_rep {F : Hp} (c : Int) : ∀ (n : Nat) (l : Int), Reps G F (stepInts l c n) ((List.range n).map fun m => V.int (l + (m : Nat) * c))
  | 0, _ => rfl
  | n + 1, l => by
    rw [List.range_succ_eq_map,
        List.map_cons, List.map_map]
    refine ⟨_, _, rfl, by simp [Rep], ?_⟩
    have e : ((fun i : Nat => V.int (l + (i : Nat) * c)) ∘ Nat.succ) = fun i : Nat => V.int (l + c + (i : Nat) * c) := by
      funext i
      show V.int (l + ((i + 1 : Nat) : Int) * c) = V.int (l + c + (i : Int) * c)
      congr 1
      rw [Int.natCast_add, Int.add_mul]
      omega
    rw [e]
    exact step_rep c n (l + c)
theorem stepInts_one : ∀ (n : Nat) (l : Int), stepInts l 1 n = zInts l n
  | 0, _ => rfl
  | n + 1, l => by
    show D.int l :: stepInts (l + 1) 1 n = D.int l :: zInts (l + 1) n
    rw [stepInts_one]
theorem de_tupRg (hc : X.calm = true) (hg : Gl X "tuple") (hm : X.mg "tuple" = none) (hr : PRg X e (tRg2 (rd G W da) (rd G W db)))
    (na : starEach [e] X.env = (false, eval e X.env) :: starEach [] X.env := by rfl) : PE X (.Call (.Name "tuple" p) [e] [] pos) (rd G W (eRg tupRgF da db)) := by
  refine PE_imp (pe_tupRgC hc hg hm (prc_2 hr) na) fun σ H Q hq => ?_
  refine rg_tr (k := fun i j H Q => ∃ n : Nat, Builtin.Range.small i j 1 = true ∧ Builtin.Range.rangeSize i j 1 = n ∧ n ≤ 2 ^ 24 ∧
      ∀ (q : Addr) (ob : Obj), ob.dict = none → H q = none → Q (.ref q) (upd H q (.frz ob (.tup ((List.range n).map fun m => V.int (i + (m : Nat) * 1)))))) (fun {P F H σ Γ i j o Q} env hf q => ?_) σ H Q hq
  unfold tupRgF ov at hf
  split at hf
  · rename_i h
    cases hf
    obtain ⟨b1, b2, b3, b4, b5⟩ := rgOk_of h
    refine ⟨(j - i).toNat, small_one b1 b2 b3 b4, rangeSize_nat i j, b5, fun p ob hob hp => q.newT env hp hob ?_⟩
    have := step_rep (G := G) (F := F) 1 (j - i).toNat i
    rw [stepInts_one] at this
    exact this
  · cases hf
theorem de_tupRd (hc : X.calm = true) (hg : Gl X "tuple") (hm : X.mg "tuple" = none) (hr : PRC X e (-1) (tRg2 (rd G W da) (rd G W db)))
    (na : starEach [e] X.env = (false, eval e X.env) :: starEach [] X.env := by rfl) : PE X (.Call (.Name "tuple" p) [e] [] pos) (rd G W (eRg tupRdF da db)) := by
  refine PE_imp (pe_tupRgC hc hg hm hr na) fun σ H Q hq => ?_
  refine rg_tr (k := fun i j H Q => ∃ n : Nat, Builtin.Range.small i j (-1) = true ∧ Builtin.Range.rangeSize i j (-1) = n ∧ n ≤ 2 ^ 24 ∧
      ∀ (q : Addr) (ob : Obj), ob.dict = none → H q = none → Q (.ref q) (upd H q (.frz ob (.tup ((List.range n).map fun m => V.int (i + (m : Nat) * (-1))))))) (fun {P F H σ Γ i j o Q} env hf q => ?_) σ H Q hq
  unfold tupRdF ov at hf
  split at hf
  · rename_i h
    cases hf
    obtain ⟨b1, b2, b3, b4, b5⟩ := rgOk_of h
    obtain ⟨_, _, c2, c3⟩ := RgC.neg b3 b4 b1 b2
    exact ⟨(i - j).toNat, c2, c3, b5, fun p ob hob hp => q.newT env hp hob (step_rep (-1) _ i)⟩
  · cases hf

/-! ### a def of the text -/
def spD (G : Gx) (fn : Fn) : Sp := fun vs H Q E => ∃ (F : Hp) (ds : List D), Same F H ∧ Reps G F ds vs ∧ match fn ds with
  | .ok d => ∀ v F' H', Same H H' → Same F' H' → Ext H F F' → Rep G F' d v → Q v H'
  | .exc c fs => ∀ F' H' cls d, Same H H' → Same F' H' → Ext H F F' → ExcOk G F' c fs cls d H' → E cls d H'
  | .stuck => False
mutual
/-- without lists what is data stays data when lists are no more shared -/
theorem Rep.unshare {F F' : Hp} (hF : ∀ a o u, F a = some (.frz o u) → F' a = some (.frz o u)) : ∀ {d : D} {v : V}, noMut d = true → Rep G F d v → Rep G F' d v
  | .non, _, _, h => h
  | .bl _, _, _, h => h
  | .int _, _, _, h => h
  | .str _, _, _, h => h
  | .tup ds, v, p, h => by
    obtain ⟨a, xs, rfl, h1, h2⟩ := h
    simp only [noMut] at p
    refine ⟨a, xs, rfl, ?_, Reps.unshare hF p h2⟩
    rcases h1 with ⟨o, h1, hd⟩ | h1
    · exact .inl ⟨o, hF _ _ _ h1, hd⟩
    · exact .inr h1
  | .lst ds, _, p, _ => by simp only [noMut, Bool.false_eq_true] at p
  | .scr ds, _, p, _ => by simp only [noMut, Bool.false_eq_true] at p
  | .dK ds, _, p, _ => by simp only [noMut, Bool.false_eq_true] at p
  | .dT ds, _, p, _ => by simp only [noMut, Bool.false_eq_true] at p
  | .ins c fs, _, _, h => h.elim
theorem Reps.unshare {F F' : Hp} (hF : ∀ a o u, F a = some (.frz o u) → F' a = some (.frz o u)) : ∀ {ds : List D} {vs : List V}, noMuts ds = true → Reps G F ds vs → Reps G F' ds vs
  | [], _, _, h => h
  | d :: ds, _, p, h => by
    obtain ⟨v, r, rfl, h1, h2⟩ := h
    simp only [noMuts, Bool.and_eq_true] at p
    exact ⟨v, r, rfl, Rep.unshare hF p.1 h1, Reps.unshare hF p.2 h2⟩
end

/-- the addresses that slots own -/
def Owned (σ : L2.St) (Γ : Env) (a : Addr) : Prop := ∃ (i : Nat) (d : D), Γ[i]? = some (.ow d) ∧ σ[i]? = some (some (.ref a))
theorem OwnAt.notFrz {F H : Hp} {d : D} {a : Addr} {o : Obj} {u : HO} (h : OwnAt G F H d a) : H a ≠ Option.some (HO.frz o u) := by
  cases d with
  | lst ds =>
    obtain ⟨xs, h1, _⟩ := h
    rw [h1]
    intro z
    cases z
  | _ => exact h.elim
theorem EnvOk.owned {P F H : Hp} {σ : L2.St} {Γ : Env} {a : Addr} (env : EnvOk G P F H σ Γ) (h : Owned σ Γ a) : P a = none ∧ F a = none ∧ ∃ d, OwnAt G F H d a := by
  obtain ⟨i, d, h1, h2⟩ := h
  obtain ⟨b, e1, e2, e3, e4⟩ := env.slot i _ h1
  rw [h2] at e1
  cases e1
  exact ⟨e2, e3, d, e4⟩
/-- behind a call that knows the shared part alone -/
theorem EnvOk.after {P F F' H H' : Hp} {σ : L2.St} {Γ : Env} (env : EnvOk G P F H σ Γ) (sH : Same H H') (sF : Same F' H') (x : Ext H F F') : EnvOk G P F' H' σ Γ ∧ Ext P F F' := by
  refine ⟨⟨env.pf.trans sH, sF, env.len, fun i s hs => (env.slot i s hs).mono x.sub fun a d hd hv => ?_, env.dis⟩, x.sub, fun a o e => ?_⟩
  · subst hd
    obtain ⟨b, e1, _, e3, e4⟩ := env.slot i _ hs
    rw [e1] at hv
    cases hv
    obtain ⟨u, hu⟩ := e4.some
    refine ⟨?_, (sH _ _ hu).trans hu.symm⟩
    cases q : F' a with
    | none => rfl
    | some o =>
      rcases x.new a o q with z | z
      · rw [e3] at z; cases z
      · rw [hu] at z; cases z
  · rcases x.new a o e with z | z
    · exact .inl z
    · exact .inr (env.pf.free z)
open Classical in
/-- the shared part with all that slots own -/
noncomputable def lend (F H : Hp) (σ : L2.St) (Γ : Env) : Hp := fun a => if Owned σ Γ a then H a else F a
open Classical in
/-- .. taken back -/
noncomputable def unlend (F1 : Hp) (σ : L2.St) (Γ : Env) : Hp := fun a => if Owned σ Γ a then none else F1 a
section
variable {P F H F1 H' : Hp} {σ : L2.St} {Γ : Env}
theorem lend_yes {a : Addr} (h : Owned σ Γ a) : lend F H σ Γ a = H a := if_pos h
theorem lend_no {a : Addr} (h : ¬ Owned σ Γ a) : lend F H σ Γ a = F a := if_neg h
theorem unlend_yes {a : Addr} (h : Owned σ Γ a) : unlend F1 σ Γ a = none := if_pos h
theorem unlend_no {a : Addr} (h : ¬ Owned σ Γ a) : unlend F1 σ Γ a = F1 a := if_neg h
theorem lend_sub (env : EnvOk G P F H σ Γ) : Same F (lend F H σ Γ) := fun a o e => by
  by_cases h : Owned σ Γ a
  · rw [(env.owned h).2.1] at e; cases e
  · rw [lend_no h]; exact e
theorem lend_le (env : EnvOk G P F H σ Γ) : Same (lend F H σ Γ) H := fun a o e => by
  by_cases h : Owned σ Γ a
  · rw [lend_yes h] at e; exact e
  · rw [lend_no h] at e; exact env.fh _ _ e
theorem lend_rep (env : EnvOk G P F H σ Γ) : ∀ {os : List Opd} {vs : List V} {ds : List D}, WOpds G F σ os vs → gets Γ os = some ds → Reps G (lend F H σ Γ) ds vs
  | [], _, _, h, g => by
    cases g
    exact h
  | o :: os, _, _, h, g => by
    obtain ⟨v, r, rfl, h1, h2⟩ := h
    unfold gets at g
    cases ho : o.get Γ with
    | none => rw [ho] at g; cases g
    | some d =>
      cases hg : gets Γ os with
      | none => rw [ho, hg] at g; cases g
      | some ds =>
        rw [ho, hg] at g
        cases g
        refine ⟨v, r, rfl, ?_, lend_rep env h2 hg⟩
        rcases h1 with ⟨d', e1, e2⟩ | ⟨i, rfl, e1⟩
        · have : o.get Γ = some d' := by
            cases o with
            | val z => exact e1
            | fresh z => exact e1
            | own i => cases e1
          rw [ho] at this
          cases this
          exact Rep.mono (lend_sub env) e2
        · have hs : slotD Γ[i]? = some d := ho
          cases hsl : Γ[i]? with
          | none => rw [hsl] at hs; cases hs
          | some s =>
            rw [hsl] at hs
            cases s with
            | no => cases hs
            | ex c fs => cases hs
            | sh d' =>
              cases hs
              obtain ⟨x, k1, k2⟩ := env.slot i _ hsl
              rw [e1] at k1
              cases k1
              exact Rep.mono (lend_sub env) k2
            | ow d' =>
              cases hs
              obtain ⟨a, k1, k2, k3, k4⟩ := env.slot i _ hsl
              rw [e1] at k1
              cases k1
              have hO : Owned σ Γ a := ⟨i, _, hsl, e1⟩
              cases d with
              | lst ds' =>
                obtain ⟨xs, m1, m2⟩ := k4
                exact ⟨a, xs, rfl, (lend_yes hO).trans m1, Reps.mono (lend_sub env) m2⟩
              | _ => exact k4.elim
/-- behind a call that was lent what slots own -/
theorem EnvOk.afterLent (env : EnvOk G P F H σ Γ) (sH : Same H H') (sF : Same F1 H') (x : Ext H (lend F H σ Γ) F1) : EnvOk G P (unlend F1 σ Γ) H' σ Γ ∧ Ext P F (unlend F1 σ Γ) ∧ ∀ a o u, F1 a = some (.frz o u) → unlend F1 σ Γ a = some (.frz o u) := by
  have sub : Same F (unlend F1 σ Γ) := fun a o e => by
    have hn : ¬ Owned σ Γ a := fun h => by rw [(env.owned h).2.1] at e; cases e
    rw [unlend_no hn]
    exact x.sub _ _ (lend_sub env _ _ e)
  refine ⟨⟨env.pf.trans sH, fun a o e => ?_, env.len, fun i s hs => (env.slot i s hs).mono sub fun a d hd hv => ?_, env.dis⟩, ⟨sub, fun a o e => ?_⟩, fun a o u e => ?_⟩
  · by_cases h : Owned σ Γ a
    · rw [unlend_yes h] at e; cases e
    · rw [unlend_no h] at e; exact sF _ _ e
  · subst hd
    have hO : Owned σ Γ a := ⟨i, d, hs, hv⟩
    obtain ⟨_, _, d2, h4⟩ := env.owned hO
    obtain ⟨u, hu⟩ := h4.some
    exact ⟨unlend_yes hO, (sH _ _ hu).trans hu.symm⟩
  · by_cases h : Owned σ Γ a
    · rw [unlend_yes h] at e; cases e
    · rw [unlend_no h] at e
      rcases x.new a o e with z | z
      · rw [lend_no h] at z; exact .inl z
      · exact .inr (env.pf.free z)
  · by_cases h : Owned σ Γ a
    · obtain ⟨_, _, d2, h4⟩ := env.owned h
      obtain ⟨w, hw⟩ := h4.some
      have e2 : F1 a = some w := x.sub _ _ ((lend_yes h).trans hw)
      rw [e] at e2
      cases e2
      exact absurd hw (OwnAt.notFrz h4)
    · rw [unlend_no h]; exact e
end
theorem WOpds.noOwn {P F H : Hp} {σ : L2.St} {Γ : Env} (env : EnvOk G P F H σ Γ) : ∀ {os : List Opd} {vs : List V} {ds : List D}, WOpds G F σ os vs → gets Γ os = some ds → os.any Opd.isOwn = false → Reps G F ds vs
  | [], _, _, h, g, _ => by
    cases g
    exact h
  | o :: os, _, _, h, g, na => by
    obtain ⟨v, r, rfl, h1, h2⟩ := h
    simp only [List.any_cons, Bool.or_eq_false_iff] at na
    unfold gets at g
    cases ho : o.get Γ with
    | none => rw [ho] at g; cases g
    | some d =>
      cases hg : gets Γ os with
      | none => rw [ho, hg] at g; cases g
      | some ds =>
        rw [ho, hg] at g
        cases g
        refine ⟨v, r, rfl, ?_, WOpds.noOwn env h2 hg na.2⟩
        rcases h1 with ⟨d', e1, e2⟩ | ⟨i, rfl, e1⟩
        · have : o.get Γ = some d' := by
            cases o with
            | val z => exact e1
            | fresh z => exact e1
            | own i => cases e1
          rw [ho] at this
          cases this
          exact e2
        · cases na.1
/-- what a call leaves -/
theorem call_tr {fn : Fn} {P F H : Hp} {σ : L2.St} {Γ : Env} {os : List Opd} {vs : List V} {Q : VK} (env : EnvOk G P F H σ Γ) (ho : WOpds G F σ os vs) (h : EPost G W P F σ Q (callR fn os Γ)) : spD G fn vs H Q (fun cls d H' => W cls d σ H') := by
  unfold callR at h
  cases hg : gets Γ os with
  | none => simp only [hg] at h; exact h.elim
  | some ds =>
    simp only [hg] at h
    by_cases hown : os.any Opd.isOwn = true
    · refine ⟨lend F H σ Γ, ds, lend_le env, lend_rep env ho hg, ?_⟩
      cases hf : fn ds with
      | stuck => rw [hf] at h; exact h.elim
      | ok d =>
        rw [hf] at h
        simp only [hown, if_true] at h
        split at h
        · rename_i hm
          intro v F' H' sH sF x r
          obtain ⟨env2, x2, hz⟩ := env.afterLent sH sF x
          exact h v _ H' x2 env2 (Rep.unshare hz hm r)
        · exact h.elim
      | exc c fs =>
        rw [hf] at h
        intro F' H' cls d sH sF x ex
        obtain ⟨env2, x2, hz⟩ := env.afterLent sH sF x
        obtain ⟨e1, rfl, e3⟩ := ex
        simp only [List.isEmpty_nil, Bool.true_or, if_true] at h
        exact h _ H' cls d x2 env2 ⟨e1, rfl, e3⟩
    · have hown : os.any Opd.isOwn = false := by
        cases e : os.any Opd.isOwn with
        | true => exact absurd e hown
        | false => rfl
      refine ⟨F, ds, env.fh, ho.noOwn env hg hown, ?_⟩
      cases hf : fn ds with
      | stuck => rw [hf] at h; exact h.elim
      | ok d =>
        rw [hf] at h
        simp only [hown, Bool.false_eq_true, if_false] at h
        intro v F' H' sH sF x r
        obtain ⟨env2, x2⟩ := env.after sH sF x
        exact h v _ H' x2 env2 r
      | exc c fs =>
        rw [hf] at h
        intro F' H' cls d sH sF x ex
        obtain ⟨env2, x2⟩ := env.after sH sF x
        simp only [hown, Bool.not_false, Bool.or_true, Bool.true_or, if_true] at h
        exact h _ H' cls d x2 env2 ex
theorem de_call {x : Str} {fn : Fn} {t : As} {k : Nat} {f : Addr} {fd : FuncData} {ps : List Str} (F : FnOk X.prog X.w X.K X.mg X.base (L2.CX X.prog X.w) k f fd ps (spD G fn)) (hr : Room k X.A) (hg : Gl X x) (hm : X.mg x = some (.ref f)) (hk : PySem.W.keepIn X.K (.ref f) = true) (hb : Binds X.K fd ps [])
    (tk : Takes X W) (ha : PA X (e :: es) (rdA G W t)) (hdb : (x == ("__debug__" : Str)) = false := by decide) (he : starEach (e :: es) X.env = (false, eval e X.env) :: starEach es X.env := by rfl) (hpl : (backTo pos (starEach es X.env)).any (·.1) = false := by rfl) :
    PE X (.Call (.Name x p) (e :: es) [] pos) (rd G W (eCall fn t)) := by
  refine PE_imp (pe_callSD F hr hg hm hk hb .nil (fun σ => passAt tk σ) ha hdb he hpl) fun σ H Q hq => ?_
  obtain ⟨P, F0, Γ, env, h⟩ := hq
  refine rdA_bind env h fun os Γ1 vs F1 H1 e1 env1 ho h1 => ?_
  rw [List.append_nil]
  exact call_tr env1 ho h1
end
end DP

/-! DpRules3: methods, truth values, tests. -/
namespace DP
open PySem PySem.Spec
    PyProof.Rows L2

section
variable {G : Gx} {W : WX} {X : Cx} {a b c e o : Expr} {es rest : List Expr} {pos p apos cpos p2 : Pos} {da db dc : E}

/-! ### slots set -/
section
variable {P F H H' : Hp} {σ : L2.St} {Γ : Env}
theorem len_get {α : Type} {i : Nat} {l : List α} {x : α} (h : l[i]? = some x) : i < l.length := (List.getElem?_eq_some_iff.mp h).1
theorem EnvOk.setSh {d : D} {v : V} (env : EnvOk G P F H σ Γ) (r : Rep G F d v) (i : Nat) : EnvOk G P F H (σ.set i (some v)) (Γ.set i (.sh d)) where
  pf := env.pf
  fh := env.fh
  len := by rw [List.length_set, List.length_set]; exact env.len
  slot := fun j s hs => by
    by_cases hj : i = j
    · subst hj
      have hl : i < Γ.length := by simpa using len_get hs
      rw [List.getElem?_set_self hl] at hs
      cases hs
      rw [List.getElem?_set_self (by rw [← env.len]; exact hl)]
      exact ⟨v, rfl, r⟩
    · rw [List.getElem?_set_ne hj] at hs ⊢
      exact env.slot j s hs
  dis := fun j k a d1 e1 h1 h2 h3 h4 => by
    by_cases hj : i = j
    · subst hj
      have hl : i < Γ.length := by simpa using len_get h1
      rw [List.getElem?_set_self hl] at h1
      cases h1
    · by_cases hk : i = k
      · subst hk
        have hl : i < Γ.length := by simpa using len_get h2
        rw [List.getElem?_set_self hl] at h2
        cases h2
      · rw [List.getElem?_set_ne hj] at h1 h3
        rw [List.getElem?_set_ne hk] at h2 h4
        exact env.dis j k a d1 e1 h1 h2 h3 h4
theorem EnvOk.setNo {v : Option V} (env : EnvOk G P F H σ Γ) (i : Nat) : EnvOk G P F H (σ.set i v) (Γ.set i .no) where
  pf := env.pf
  fh := env.fh
  len := by rw [List.length_set, List.length_set]; exact env.len
  slot := fun j s hs => by
    by_cases hj : i = j
    · subst hj
      have hl : i < Γ.length := by simpa using len_get hs
      rw [List.getElem?_set_self hl] at hs
      cases hs
      trivial
    · rw [List.getElem?_set_ne hj] at hs ⊢
      exact env.slot j s hs
  dis := fun j k a d1 e1 h1 h2 h3 h4 => by
    by_cases hj : i = j
    · subst hj
      have hl : i < Γ.length := by simpa using len_get h1
      rw [List.getElem?_set_self hl] at h1
      cases h1
    · by_cases hk : i = k
      · subst hk
        have hl : i < Γ.length := by simpa using len_get h2
        rw [List.getElem?_set_self hl] at h2
        cases h2
      · rw [List.getElem?_set_ne hj] at h1 h3
        rw [List.getElem?_set_ne hk] at h2 h4
        exact env.dis j k a d1 e1 h1 h2 h3 h4
theorem EnvOk.setOw {d : D} {a : Addr} (env : EnvOk G P F H σ Γ) (hP : P a = none) (hF : F a = none) (ho : OwnAt G F H d a) (hn : ∀ (i : Nat) (e : D), Γ[i]? = some (.ow e) → σ[i]? ≠ some (some (.ref a))) (i : Nat) :
    EnvOk G P F H (σ.set i (some (.ref a))) (Γ.set i (.ow d)) where
  pf := env.pf
  fh := env.fh
  len := by rw [List.length_set, List.length_set]; exact env.len
  slot := fun j s hs => by
    by_cases hj : i = j
    · subst hj
      have hl : i < Γ.length := by simpa using len_get hs
      rw [List.getElem?_set_self hl] at hs
      cases hs
      rw [List.getElem?_set_self (by rw [← env.len]; exact hl)]
      exact ⟨a, rfl, hP, hF, ho⟩
    · rw [List.getElem?_set_ne hj] at hs ⊢
      exact env.slot j s hs
  dis := fun j k b d1 e1 h1 h2 h3 h4 => by
    by_cases hj : i = j
    · by_cases hk : i = k
      · exact hj.symm.trans hk
      · subst hj
        have hl : i < Γ.length := by simpa using len_get h1
        rw [List.getElem?_set_self (by rw [← env.len]; exact hl)] at h3
        cases h3
        rw [List.getElem?_set_ne hk] at h2 h4
        exact absurd h4 (hn k e1 h2)
    · by_cases hk : i = k
      · subst hk
        have hl : i < Γ.length := by simpa using len_get h2
        rw [List.getElem?_set_self (by rw [← env.len]; exact hl)] at h4
        cases h4
        rw [List.getElem?_set_ne hj] at h1 h3
        exact absurd h3 (hn j d1 h1)
      · rw [List.getElem?_set_ne hj] at h1 h3
        rw [List.getElem?_set_ne hk] at h2 h4
        exact env.dis j k b d1 e1 h1 h2 h3 h4
/-- the own object of slot i is changed -/
theorem EnvOk.mut {d d' : D} {a : Addr} {u : HO} {i : Nat} (env : EnvOk G P F H σ Γ) (hi : Γ[i]? = some (.ow d)) (hv : σ[i]? = some (some (.ref a))) (ho : OwnAt G F (upd H a u) d' a) : EnvOk G P F (upd H a u) σ (Γ.set i (.ow d')) where
  pf := fun b o e => by
    obtain ⟨c, h1, h2, h3, _⟩ := env.slot i _ hi
    rw [hv] at h1
    cases h1
    rw [upd_ne (ne_of_none e h2)]
    exact env.pf b o e
  fh := fun b o e => by
    obtain ⟨c, h1, h2, h3, _⟩ := env.slot i _ hi
    rw [hv] at h1
    cases h1
    rw [upd_ne (ne_of_none e h3)]
    exact env.fh b o e
  len := by rw [List.length_set]; exact env.len
  slot := fun j s hs => by
    obtain ⟨c, h1, h2, h3, _⟩ := env.slot i _ hi
    rw [hv] at h1
    cases h1
    by_cases hj : i = j
    · subst hj
      rw [List.getElem?_set_self (len_get hi)] at hs
      cases hs
      exact ⟨a, hv, h2, h3, ho⟩
    · rw [List.getElem?_set_ne hj] at hs
      refine (env.slot j s hs).mono (Same.refl _) fun b d2 hd hb => ?_
      subst hd
      obtain ⟨b', k1, _, k3, _⟩ := env.slot j _ hs
      rw [hb] at k1
      cases k1
      refine ⟨k3, upd_ne fun z => ?_⟩
      subst z
      exact hj (env.dis i j _ d d2 hi hs hv hb)
  dis := fun j k b d1 e1 h1 h2 h3 h4 => by
    have look : ∀ {m : Nat} {dd : D}, (Γ.set i (.ow d'))[m]? = some (.ow dd) → ∃ d3, Γ[m]? = some (.ow d3) := fun {m dd} h => by
      by_cases hm : i = m
      · subst hm; exact ⟨d, hi⟩
      · rw [List.getElem?_set_ne hm] at h; exact ⟨dd, h⟩
    obtain ⟨d3, g1⟩ := look h1
    obtain ⟨d4, g2⟩ := look h2
    exact env.dis j k b d3 d4 g1 g2 h3 h4
end

/-! ### methods that change the own list of a slot -/
def MutD (G : Gx) (r : V → List V → Hp → VK → Prop) (f : D → List D → Option (D × D)) : Prop :=
  ∀ {F H : Hp} {d d' v : D} {es : List D} {vs : List V} {a : Addr} {Q : VK}, OwnAt G F H d a → F a = none → Reps G F es vs → f d es = some (v, d') → (∀ v' u, Rep G F v v' → OwnAt G F (upd H a u) d' a → Q v' (upd H a u)) → r (.ref a) vs H Q
theorem mutd_append : MutD G rAppend appendM := by
  intro F H d d' v es vs a Q ho hF hr hf q
  unfold appendM at hf
  split at hf
  · split at hf
    · rename_i xs y hl
      cases hf
      obtain ⟨ys, h1, h2⟩ := ho
      obtain ⟨w, r0, rfl, k1, k2⟩ := hr
      rw [show r0 = [] from k2]
      exact ⟨a, ys, w, rfl, rfl, h1, by rw [h2.length]; exact line_lt hl, q .non _ rfl ⟨_, upd_same, h2.append (Reps.one k1)⟩⟩
    · cases hf
  · cases hf
theorem mutd_pop : MutD G rPop pop0M := by
  intro F H d d' v es vs a Q ho hF hr hf q
  cases es with
  | cons e es => cases d <;> cases hf
  | nil =>
    cases d with
    | lst xs =>
      obtain ⟨ys, h1, h2⟩ := ho
      have hf : (match xs[xs.length - 1]? with | some y => some (y, D.lst xs.dropLast) | none => none) = some (v, d') := hf
      cases hx : xs[xs.length - 1]? with
      | none => rw [hx] at hf; cases hf
      | some y =>
        rw [hx] at hf
        cases hf
        obtain ⟨w, hw, rw'⟩ := h2.get hx
        refine ⟨a, ys, w, rfl, hr, h1, by rw [h2.length]; exact hw, q w _ rw' ⟨_, upd_same, ?_⟩⟩
        rw [List.dropLast_eq_take, List.dropLast_eq_take, h2.length]
        exact h2.take _
    | _ => cases hf
theorem erase_get {α : Type} : ∀ (l : List α) (k j : Nat), (l.eraseIdx k)[j]? = l[if j < k then j else j + 1]? := fun l k j => by
  rw [List.getElem?_eraseIdx]
  split <;> rfl
theorem Reps.erase {F : Hp} {ds : List D} {vs : List V} (h : Reps G F ds vs) (k : Nat) : Reps G F (ds.eraseIdx k) (vs.eraseIdx k) :=
  h.pick (by rw [List.length_eraseIdx, List.length_eraseIdx, h.length]) (fun j => if j < k then j else j + 1) (fun i d e => by rw [erase_get] at e; exact e) (fun i d e => by rw [erase_get] at e; exact e)
theorem mutd_popAt : MutD G rPopAt popAtM := by
  intro F H d d' v es vs a Q ho hF hr hf q
  match es, hf with
  | [], hf => cases d <;> cases hf
  | e :: _ :: _, hf => cases d <;> cases e <;> cases hf
  | [e], hf =>
    cases d with
    | lst xs =>
      cases e with
      | int i =>
        obtain ⟨ys, h1, h2⟩ := ho
        obtain ⟨w0, r0, rfl, k1, k2⟩ := hr
        rw [show r0 = [] from k2, show w0 = .int i from k1]
        have hf : (if (decide (0 ≤ i) && decide (i < xs.length) && decide (xs.length < 1000000)) = true then (match xs[i.toNat]? with | some y => some (y, D.lst (xs.eraseIdx i.toNat)) | none => none) else none) = some (v, d') := hf
        split at hf
        · rename_i hc
          simp only [Bool.and_eq_true,
              decide_eq_true_eq] at hc
          cases hx : xs[i.toNat]? with
          | none => rw [hx] at hf; cases hf
          | some y =>
            rw [hx] at hf
            cases hf
            obtain ⟨w, hw, rw'⟩ := h2.get hx
            exact ⟨a, ys, i, i.toNat, w, rfl, rfl, h1, by omega, by omega, by rw [h2.length]; exact seqIndex_of hc.1.1 hc.1.2, hw, q w _ rw' ⟨_, upd_same, h2.erase _⟩⟩
        · cases hf
      | _ => cases hf
    | _ => cases hf
theorem mutd_reverse : MutD G rReverse reverseM := by
  intro F H d d' v es vs a Q ho hF hr hf q
  cases es with
  | cons e es => cases d <;> cases hf
  | nil =>
    cases d with
    | lst xs =>
      obtain ⟨ys, h1, h2⟩ := ho
      cases hf
      refine ⟨a, ys, rfl, hr, h1, q .non _ rfl ⟨_, upd_same, ?_⟩⟩
      refine h2.pick (by rw [List.length_reverse, List.length_reverse, h2.length]) (fun j => xs.length - 1 - j) (fun i d e => ?_) (fun i d e => ?_)
      · have hi : i < xs.length := by simpa using len_get e
        rw [List.getElem?_reverse hi] at e
        exact e
      · have hi : i < ys.length := by simpa using len_get e
        rw [List.getElem?_reverse hi, h2.length] at e
        exact e
    | _ => cases hf
theorem mut_tr {i : Nat} {f : D → List D → Option (D × D)} {r : V → List V → Hp → VK → Prop} {t : As} (hr : MutD G r f) (σ : L2.St) (H : Hp) (Q : VK) (hq : rd G W (eMut f i t) σ H Q) :
    tVar i σ H fun x H1 => tyV X.K "list" x H1 ∧ rdA G W t σ H1 fun xs H2 => r x xs H2 Q := by
  obtain ⟨P, F, Γ, env, h⟩ := hq
  have h : EPost G W P F σ Q (eMut f i t Γ) := h
  unfold eMut at h
  cases hs : Γ[i]? with
  | none => rw [hs] at h; exact h.elim
  | some s =>
    rw [hs] at h
    cases s with
    | no => exact h.elim
    | sh d => exact h.elim
    | ex c fs => exact h.elim
    | ow d0 =>
      obtain ⟨a, h1, h2, h3, h4⟩ := env.slot i _ hs
      refine ⟨.ref a, h1, .inl ⟨rfl, ?_⟩, ?_⟩
      · cases d0 with
        | lst ds => obtain ⟨xs, k1, _⟩ := h4; exact ⟨xs, SqL.of k1⟩
        | _ => exact h4.elim
      · refine rdA_bind env h fun os Γ1 vs F1 H1 e1 env1 ho q1 => ?_
        cases hg : strsD os with
        | none => simp only [hg] at q1; exact q1.elim
        | some ds =>
          cases hs1 : Γ1[i]? with
          | none => simp only [hg, hs1] at q1; exact q1.elim
          | some s1 =>
            simp only [hg, hs1] at q1
            cases s1 with
            | no => exact q1.elim
            | sh d => exact q1.elim
            | ex c fs => exact q1.elim
            | ow d1 =>
              obtain ⟨a', g1, g2, g3, g4⟩ := env1.slot i _ hs1
              rw [h1] at g1
              cases g1
              cases hf : f d1 ds with
              | none => simp only [hf] at q1; exact q1.elim
              | some z =>
                obtain ⟨v, d'⟩ := z
                simp only [hf] at q1
                refine hr g4 g3 (ho.strong hg) hf fun v' u rv ho' => ?_
                exact q1 v' F1 _ (Ext.refl _ _) (env1.mut hs1 h1 ho') rv
theorem de_append {x : Str} {px : Pos} {t : As} (i : Nat) (ha : PA X (e :: es) (rdA G W t)) (hv : PE X (.Name x px) (tVar i)) (hbase : attributeBase (.Name x px) "append" X.env (eval (.Name x px) X.env) = eval (.Name x px) X.env := by rfl)
    (hfew : ((backTo cpos (starEach (e :: es) X.env)).all (fun x =>
        !x.1) && (backToKw cpos (keywordEach [] X.env)).all (fun x => x.1.isSome)
      && decide ((e :: es).length + ([] : List Keyword).length + (if ([]
          : List Keyword).isEmpty then 0 else 1) < 30)) = true := by rfl)
    (hline : (apos.endLine == cpos.line) = true := by rfl) (hs : starEach (e :: es) X.env = (false,
        eval e X.env) :: starEach es X.env := by rfl) (hplain : (backTo cpos (starEach es X.env)).any (·.1) = false := by rfl) :
    PE X (.Call (.Attribute (.Name x px) "append" apos) (e :: es) [] cpos) (rd G W (eMut appendM i t)) :=
  PE_imp (pe_bm PySem.F.plainAttrs_list PySem.F.slot_list_append PySem.F.type_list_append mt_append hv ha hbase hfew hline hs hplain) (mut_tr mutd_append)
theorem de_popAt {x : Str} {px : Pos} {t : As} (i : Nat) (ha : PA X (e :: es) (rdA G W t)) (hv : PE X (.Name x px) (tVar i)) (hbase : attributeBase (.Name x px) "pop" X.env (eval (.Name x px) X.env) = eval (.Name x px) X.env := by rfl)
    (hfew : ((backTo cpos (starEach (e :: es) X.env)).all (fun x =>
        !x.1) && (backToKw cpos (keywordEach [] X.env)).all (fun x => x.1.isSome)
      && decide ((e :: es).length + ([] : List Keyword).length + (if ([]
          : List Keyword).isEmpty then 0 else 1) < 30)) = true := by rfl)
    (hline : (apos.endLine == cpos.line) = true := by rfl) (hs : starEach (e :: es) X.env = (false,
        eval e X.env) :: starEach es X.env := by rfl) (hplain : (backTo cpos (starEach es X.env)).any (·.1) = false := by rfl) :
    PE X (.Call (.Attribute (.Name x px) "pop" apos) (e :: es) [] cpos) (rd G W (eMut popAtM i t)) :=
  PE_imp (pe_bm PySem.F.plainAttrs_list PySem.F.slot_list_pop PySem.F.type_list_pop mt_popAt hv ha hbase hfew hline hs hplain) (mut_tr mutd_popAt)
theorem mut0_tr {i : Nat} {f : D → List D → Option (D × D)} {r : V → List V → Hp → VK → Prop} (hr : MutD G r f) (σ : L2.St) (H : Hp) (Q : VK) (hq : rd G W (eMut f i aNil) σ H Q) :
    tVar i σ H fun x H1 => tyV X.K "list" x H1 ∧ r x [] H1 Q := by
  obtain ⟨v, h1, h2, P, F, Γ, env, h3⟩ := mut_tr (X := X) hr σ H Q hq
  exact ⟨v, h1, h2, h3 [] F H (Ext.refl _ _) env rfl⟩
theorem de_pop {x : Str} {px : Pos} (i : Nat) (hv : PE X (.Name x px) (tVar i)) (hbase : attributeBase (.Name x px) "pop" X.env (eval (.Name x px) X.env) = eval (.Name x px) X.env := by rfl) (hline : (apos.endLine == cpos.line) = true := by rfl) :
    PE X (.Call (.Attribute (.Name x px) "pop" apos) [] [] cpos) (rd G W (eMut pop0M i aNil)) :=
  PE_imp (pe_bm0 PySem.F.plainAttrs_list PySem.F.slot_list_pop PySem.F.type_list_pop mt_pop hv hbase hline) (mut0_tr mutd_pop)
theorem de_reverse {x : Str} {px : Pos} (i : Nat) (hv : PE X (.Name x px) (tVar i)) (hbase : attributeBase (.Name x px) "reverse" X.env (eval (.Name x px) X.env) = eval (.Name x px) X.env := by rfl) (hline : (apos.endLine == cpos.line) = true := by rfl) :
    PE X (.Call (.Attribute (.Name x px) "reverse" apos) [] [] cpos) (rd G W (eMut reverseM i aNil)) :=
  PE_imp (pe_bm0 PySem.F.plainAttrs_list PySem.F.slot_list_reverse PySem.F.type_list_reverse mt_reverse hv hbase hline) (mut0_tr mutd_reverse)

/-! ### tuple.index -/
theorem index_shape {xs ds : List D} {z : Opd} (h : indexM xs ds = some z) : ∃ y, ds = [y] ∧ flat y = true ∧ xs.all flat = true ∧ ∃ j, findD y 0 xs = some j ∧ z = .val (.int (j : Nat)) := by
  unfold indexM at h
  split at h
  · rename_i y
    split at h
    · rename_i hc
      rw [Bool.and_eq_true] at hc
      cases hf : findD y 0 xs with
      | none =>
          rw [hf] at h; cases h
      | some j =>
        rw [hf] at h
        cases h
        exact ⟨y, rfl, hc.1, hc.2, j, hf, rfl⟩
    · cases h
  · cases h
theorem de_tupIndex {t : As} (ok : Ok G X) (ha : PE X a (rd G W da)) (ht : PA X (e :: es) (rdA G W t)) (hbase : attributeBase a "index" X.env (eval a X.env) = eval a X.env := by rfl)
    (hfew : ((backTo cpos (starEach (e :: es) X.env)).all (fun x =>
        !x.1) && (backToKw cpos (keywordEach [] X.env)).all (fun x => x.1.isSome)
      && decide ((e :: es).length + ([] : List Keyword).length + (if ([]
          : List Keyword).isEmpty then 0 else 1) < 30)) = true := by rfl)
    (hline : (apos.endLine == cpos.line) = true := by rfl) (hs : starEach (e :: es) X.env = (false,
        eval e X.env) :: starEach es X.env := by rfl) (hplain : (backTo cpos (starEach es X.env)).any (·.1) = false := by rfl) :
    PE X (.Call (.Attribute a "index" apos) (e :: es) [] cpos) (rd G W (eMtT indexM da t)) := by
  refine PE_imp (pe_mG tyok_tup PySem.F.plainAttrs_tuple PySem.F.slot_tuple_index PySem.F.type_tuple_index mt_tupIndex ha ht hbase hfew hline hs hplain) fun σ H Q hq => ?_
  obtain ⟨P, F, Γ, env, h⟩ := hq
  refine rd_bind env h fun o1 Γ1 v1 F1 H1 e1 env1 ho1 h1 => ?_
  cases hx : o1.str with
  | none => simp only [hx] at h1; exact h1.elim
  | some dx =>
    obtain ⟨F2, e2, env2, r2⟩ := OpdOk.strong env1 ho1 hx
    simp only [hx] at h1
    cases dx with
    | tup xs =>
      simp only at h1
      obtain ⟨ad, ys, rfl, hT, hR⟩ := r2
      refine ⟨⟨ad, ys, rfl, by rw [← ok.K]; exact hT.mono env2.fh⟩, ?_⟩
      refine rdA_bind env2 (EPost.ext e2 h1) fun os Γ2 vs F3 H3 e3 env3 ho3 h3 => ?_
      cases hg : gets Γ2 os with
      | none => simp only [hg] at h3; exact h3.elim
      | some ds =>
        simp only [hg] at h3
        have hw := ho3.reads env3 hg
        cases hi : indexM xs ds with
        | none => rw [hi] at h3; exact h3.elim
        | some z =>
          rw [hi] at h3
          obtain ⟨y, rfl, c1, c2, j, hf, rfl⟩ := index_shape hi
          obtain ⟨vy, rfl, hwy⟩ := hw.one
          have hR3 := hR.mono e3.sub
          obtain ⟨k1, k2, z, k3, k4, k5⟩ := find_rep c1 c2 hR3 (hwy.flat c1) hf
          exact ⟨ad, ys, vy, j, z, rfl, rfl, by rw [← ok.K]; exact (hT.mono (e3.sub.trans env3.fh)).sq, k1, k2, k3, k4, k5, Go.val env3 h3 rfl⟩
    | _ => exact h1.elim
end
end DP

/-! DpTests: truth values, tests. -/
namespace DP
open PySem PySem.Spec
    PyProof.Rows L2

section
variable {G : Gx} {W : WX} {X : Cx} {a b c e o : Expr} {es rest : List Expr} {pos p apos cpos p2 : Pos} {da db dc : E} {ta tb tc : T}

/-- a truth value that a part gives -/
theorem bool_val {P F H : Hp} {σ : L2.St} {Γ : Env} {v : V} {k : Bool} (h : OpdOk G P F H σ Γ (.val (.bl k)) v) : v = .bl k := h
theorem de_one {op : _} (h : PE X a (rd G W da)) : PE X (.BoolOp op [a] pos) (rd G W da) := pe_one h
theorem de_and (ha : PE X a (rd G W da)) (hb : PE X (.BoolOp .And (b :: rest) pos) (rd G W db)) : PE X (.BoolOp .And (a :: b :: rest) pos) (rd G W (eAnd da db)) := by
  refine PE_imp (pe_and ha hb) fun σ H Q hq => ?_
  obtain ⟨P, F, Γ, env, h⟩ := hq
  refine rd_bind env h fun o1 Γ1 v1 F1 H1 e1 env1 ho1 h1 => ?_
  cases o1 with
  | fresh d => exact h1.elim
  | own i => exact h1.elim
  | val d =>
    cases d with
    | bl k =>
      refine ⟨k, ho1, ?_⟩
      cases k with
      | true => exact ⟨P, F1, Γ1, env1, h1⟩
      | false => exact Go.val env1 h1 rfl
    | _ => exact h1.elim
theorem de_or (ha : PE X a (rd G W da)) (hb : PE X (.BoolOp .Or (b :: rest) pos) (rd G W db)) : PE X (.BoolOp .Or (a :: b :: rest) pos) (rd G W (eOr da db)) := by
  refine PE_imp (pe_or ha hb) fun σ H Q hq => ?_
  obtain ⟨P, F, Γ, env, h⟩ := hq
  refine rd_bind env h fun o1 Γ1 v1 F1 H1 e1 env1 ho1 h1 => ?_
  cases o1 with
  | fresh d => exact h1.elim
  | own i => exact h1.elim
  | val d =>
    cases d with
    | bl k =>
      refine ⟨k, ho1, ?_⟩
      cases k with
      | true => exact Go.val env1 h1 rfl
      | false => exact ⟨P, F1, Γ1, env1, h1⟩
    | _ => exact h1.elim
theorem de_not (ha : PE X a (rd G W da)) : PE X (.UnaryOp .Not a pos) (rd G W (eNot da)) := by
  refine PE_imp (pe_not ha) fun σ H Q hq => ?_
  obtain ⟨P, F, Γ, env, h⟩ := hq
  refine rd_bind env h fun o1 Γ1 v1 F1 H1 e1 env1 ho1 h1 => ?_
  cases o1 with
  | fresh d => exact h1.elim
  | own i => exact h1.elim
  | val d =>
    cases d with
    | bl k => exact ⟨k, ho1, Go.val env1 h1 rfl⟩
    | _ => exact h1.elim
theorem de_if (hc : PT X c (rdT G W tc)) (ha : PE X a (rd G W da)) (hb : PE X b (rd G W db)) : PE X (.IfExp c a b pos) (rd G W (eIf tc da db)) := by
  refine PE_imp (pe_ifExp hc ha hb) fun σ H Q hq => ?_
  obtain ⟨P, F, Γ, env, h⟩ := hq
  refine rdT_bind (Post := fun F r => EPost G W P F σ Q r) env h (fun z => z) (fun _ _ _ z => z) (fun _ _ e z => z.ext e) fun k Γ1 F1 H1 e1 env1 h1 => ?_
  cases k with
  | true => exact ⟨P, F1, Γ1, env1, h1⟩
  | false => exact ⟨P, F1, Γ1, env1, h1⟩

/-! ### tests -/
theorem dt_e (ha : PE X a (rd G W da)) (he : ∀ whole, isTrue a X.env whole = (do let v ← whole; standAt a.pos; holding [v] (truthy v)) := by intro _; rfl) : PT X a (rdT G W (tE da)) := by
  refine PT_imp (pt_val ha he) fun σ H Q hq => ?_
  obtain ⟨P, F, Γ, env, h⟩ := hq
  have h : TPost G W P F σ Q (tE da Γ) := h
  refine rd_bindG (Post := fun F r => TPost G W P F σ Q r) env h (fun z => z) (fun _ _ _ z => z) (fun _ _ e z => z.ext e) fun o1 Γ1 v1 F1 H1 e1 env1 ho1 h1 => ?_
  cases o1 with
  | fresh d => exact h1.elim
  | own i => exact h1.elim
  | val d =>
    cases d with
    | bl k => exact ⟨k, ho1, h1 F1 H1 (Ext.refl _ _) env1⟩
    | _ => exact h1.elim
/-- a comparison as a test -/
theorem cmpt_tr {r : R2} {f : D → D → Option Opd} (hr : ∀ {P F H : Hp} {σ : L2.St} {Γ : Env} {dx dy : D} {x y : V} {o : Opd} {Q : VK}, EnvOk G P F H σ Γ → WRep G F H dx x → WRep G F H dy y → f dx dy = some o → Go G P F σ Γ o Q → r x y H Q)
    (σ : L2.St) (H : Hp) (Q : Bool → Hp → Prop) (hq : rdT G W (tE (eBin f da db)) σ H Q) : tTest (tOp r (rd G W da) (rd G W db)) σ H Q := by
  obtain ⟨P, F, Γ, env, h⟩ := hq
  have h : TPost G W P F σ Q (tE (eBin f da db) Γ) := h
  refine bin_tr hr σ H _ ?_
  refine rd_bindG (Post := fun F r => TPost G W P F σ Q r) env h (fun z => z) (fun _ _ _ z => z) (fun _ _ e z => z.ext e) fun o1 Γ1 v1 F1 H1 e1 env1 ho1 h1 => ?_
  cases o1 with
  | fresh d => exact h1.elim
  | own i => exact h1.elim
  | val d =>
    cases d with
    | bl k => exact ⟨k, ho1, h1 F1 H1 (Ext.refl _ _) env1⟩
    | _ => exact h1.elim
theorem dt_cmp {op : CmpOp} {f : D → D → Option Opd} (ho : OpD G X (compareOp op) f) (ha : PE X a (rd G W da)) (hb : PE X b (rd G W db)) (hm : behindInMarks op b = false := by first | exact nomark _ | rfl) : PT X (.Compare a [op] [b] pos) (rdT G W (tE (eBin f da db))) := by
  obtain ⟨r, h1, h2⟩ := ho
  exact PT_imp (pt_cmpR h1 ha hb hm) (cmpt_tr h2)
theorem un_test {f : D → Option Opd} {g : V → Bool} (hg : ∀ {F H : Hp} {dx : D} {x : V} {o : Opd}, WRep G F H dx x → f dx = some o → o = .val (.bl (g x))) (σ : L2.St) (H : Hp) (Q : Bool → Hp → Prop) (hq : rdT G W (tE (eUn f da)) σ H Q) :
    rd G W da σ H fun x H1 => Q (g x) H1 := by
  obtain ⟨P, F, Γ, env, h⟩ := hq
  have h : TPost G W P F σ Q ((((da Γ).bind fun x Γ1 => match x.get Γ1 with | some dx => opt (f dx) Γ1 | none => .stuck)).bind fun x Γ1 => match x with | .val (.bl k) => .ok k Γ1 | _ => .stuck) := h
  refine ⟨P, F, Γ, env, ?_⟩
  cases he : da Γ with
  | exc c fs Γ1 => rw [he] at h; exact h
  | stuck => rw [he] at h; exact h.elim
  | ok o1 Γ1 =>
    rw [he] at h
    intro v F1 H1 e1 env1 ho1
    dsimp only [R.bind] at h
    cases hx : o1.get Γ1 with
    | none => simp only [hx] at h; exact h.elim
    | some dx =>
      simp only [hx] at h
      cases hf : f dx with
      | none => rw [hf] at h; exact h.elim
      | some z =>
        rw [hf] at h
        have hz := hg (OpdOk.read env1 ho1 hx) hf
        subst hz
        exact h F1 H1 e1 env1
theorem dt_isN {j : _} {p' : Pos} (ha : PE X a (rd G W da)) : PT X (.Compare a [.Is] [.Constant .none j p'] pos) (rdT G W (tE (eUn isNF da))) := by
  refine PT_imp (pt_cmp (pc_isN ha) rfl) fun σ H Q hq => ?_
  have h := un_test (g := fun x => decide (x = .non)) (fun hw hf => by cases hf; rw [wrep_isNon hw]) σ H Q hq
  obtain ⟨P, F, Γ, env, h⟩ := h
  refine ⟨P, F, Γ, env, ?_⟩
  cases he : da Γ with
  | exc c fs Γ1 => rw [he] at h; exact h
  | stuck => rw [he] at h; exact h
  | ok o1 Γ1 =>
    rw [he] at h
    exact fun v F1 H1 e1 env1 ho1 => ⟨_, rfl, h v F1 H1 e1 env1 ho1⟩
theorem dt_notN {j : _} {p' : Pos} (ha : PE X a (rd G W da)) : PT X (.Compare a [.IsNot] [.Constant .none j p'] pos) (rdT G W (tE (eUn isNotNF da))) := by
  refine PT_imp (pt_cmp (pc_notN ha) rfl) fun σ H Q hq => ?_
  have h := un_test (g := fun x => !decide (x = .non)) (fun hw hf => by cases hf; rw [wrep_isNon hw]) σ H Q hq
  obtain ⟨P, F, Γ, env, h⟩ := h
  refine ⟨P, F, Γ, env, ?_⟩
  cases he : da Γ with
  | exc c fs Γ1 => rw [he] at h; exact h
  | stuck => rw [he] at h; exact h
  | ok o1 Γ1 =>
    rw [he] at h
    exact fun v F1 H1 e1 env1 ho1 => ⟨_, rfl, h v F1 H1 e1 env1 ho1⟩
theorem and_tr (σ : L2.St) (H : Hp) (Q : Bool → Hp → Prop) (hq : rdT G W (tAnd ta tb) σ H Q) : L2.tAnd (rdT G W ta) (rdT G W tb) σ H Q := by
  obtain ⟨P, F, Γ, env, h⟩ := hq
  have h : TPost G W P F σ Q (tAnd ta tb Γ) := h
  refine rdT_bind (Post := fun F r => TPost G W P F σ Q r) env h (fun z => z) (fun _ _ _ z => z) (fun _ _ e z => z.ext e) fun k Γ1 F1 H1 e1 env1 h1 => ?_
  cases k with
  | true => exact ⟨P, F1, Γ1, env1, h1⟩
  | false => exact h1 F1 H1 (Ext.refl _ _) env1
theorem or_tr (σ : L2.St) (H : Hp) (Q : Bool → Hp → Prop) (hq : rdT G W (tOr ta tb) σ H Q) : L2.tOr (rdT G W ta) (rdT G W tb) σ H Q := by
  obtain ⟨P, F, Γ, env, h⟩ := hq
  have h : TPost G W P F σ Q (tOr ta tb Γ) := h
  refine rdT_bind (Post := fun F r => TPost G W P F σ Q r) env h (fun z => z) (fun _ _ _ z => z) (fun _ _ e z => z.ext e) fun k Γ1 F1 H1 e1 env1 h1 => ?_
  cases k with
  | true => exact h1 F1 H1 (Ext.refl _ _) env1
  | false => exact ⟨P, F1, Γ1, env1, h1⟩
theorem PW_imp {t t' : TT} (h : PW X e t) (f : ∀ σ H Q, t' σ H Q → t σ H Q) : PW X e t' := ⟨fun whole pins s σ H Q I hq => h.run whole pins s σ H Q I (f σ H Q hq)⟩
theorem dw_and1 (ha : PT X a (rdT G W ta)) : PW X (.BoolOp .And [a] pos) (rdT G W ta) := pw_and1 ha
theorem dw_or1 (ha : PT X a (rdT G W ta)) : PW X (.BoolOp .Or [a] pos) (rdT G W ta) := pw_or1 ha
theorem dw_and (ha : PT X a (rdT G W ta)) (hb : PW X (.BoolOp .And (b :: rest) pos) (rdT G W tb)) : PW X (.BoolOp .And (a :: b :: rest) pos) (rdT G W (tAnd ta tb)) := PW_imp (pw_and ha hb) and_tr
theorem dw_or (ha : PT X a (rdT G W ta)) (hb : PW X (.BoolOp .Or (b :: rest) pos) (rdT G W tb)) : PW X (.BoolOp .Or (a :: b :: rest) pos) (rdT G W (tOr ta tb)) := PW_imp (pw_or ha hb) or_tr
theorem dt_not (ha : PT X a (rdT G W ta)) : PT X (.UnaryOp .Not a pos) (rdT G W (tNot ta)) := by
  refine PT_imp (pt_not ha) fun σ H Q hq => ?_
  obtain ⟨P, F, Γ, env, h⟩ := hq
  have h : TPost G W P F σ Q (tNot ta Γ) := h
  refine rdT_bind (Post := fun F r => TPost G W P F σ Q r) env h (fun z => z) (fun _ _ _ z => z) (fun _ _ e z => z.ext e) fun k Γ1 F1 H1 e1 env1 h1 => ?_
  exact h1 F1 H1 (Ext.refl _ _) env1
theorem truth_rep {F H : Hp} {d : D} {v : V} {k : Bool} (ok : Ok G X) (fh : Same F H) (h : WRep G F H d v) (e : truth d = some k) (hs : ∀ s, d = .str s → s.length ≤ sizeLine) : TruV X.K v H k := by
  cases d with
  | non => cases e; rw [h.non]; rfl
  | bl b => cases e; rw [h.bl]; rfl
  | int i => cases e; rw [h.int]; rfl
  | str s =>
    have e : (if s.length ≤ 1000000 then some (s.length != 0) else none) = some k := e
    rw [if_pos (by
      split at e
      · assumption
      · cases e)] at e
    cases e
    rw [h.str]
    refine ⟨hs s rfl, ?_⟩
    cases hl : s.length with
    | zero => rfl
    | succ n =>
      show (n + 1 != 0) = (((n + 1 : Nat) : Int) != 0)
      rw [show (n + 1 != 0) = true by simp]
      symm
      simp
      omega
  | tup xs => cases e; obtain ⟨a, ys, rfl, h1, _, h2⟩ := h.tup fh; exact .inr (.inl ⟨ys, by rw [← ok.K]; exact h1, by cases xs <;> cases ys <;> first | rfl | (have := h2.length; simp at this)⟩)
  | lst xs => cases e; obtain ⟨a, ys, rfl, h1, h2⟩ := h.lst fh; exact .inl ⟨ys, SqL.of h1, by cases xs <;> cases ys <;> first | rfl | (have := h2.length; simp at this)⟩
  | scr xs => cases e
  | dK k => exact h.dK.elim
  | dT k => exact h.dT.elim
  | ins c fs => cases e
theorem dt_tru (ok : Ok G X) (ha : PE X a (rd G W da)) (he : ∀ whole, isTrue a X.env whole = (do let v ← whole; standAt a.pos; holding [v] (truthy v)) := by intro _; rfl) : PT X a (rdT G W (tTru da)) := by
  refine PT_imp (pt_truth ha he) fun σ H Q hq => ?_
  obtain ⟨P, F, Γ, env, h⟩ := hq
  have h : TPost G W P F σ Q (tTru da Γ) := h
  refine rd_bindG (Post := fun F r => TPost G W P F σ Q r) env h (fun z => z) (fun _ _ _ z => z) (fun _ _ e z => z.ext e) fun o1 Γ1 v1 F1 H1 e1 env1 ho1 h1 => ?_
  cases hx : o1.get Γ1 with
  | none => simp only [hx] at h1; exact h1.elim
  | some d =>
    simp only [hx] at h1
    cases ht : truth d with
    | none => rw [ht] at h1; exact h1.elim
    | some k =>
      rw [ht] at h1
      refine ⟨k, truth_rep ok env1.fh (OpdOk.read env1 ho1 hx) ht (fun s hs => ?_), h1 F1 H1 (Ext.refl _ _) env1⟩
      subst hs
      have h2 : (if s.length ≤ 1000000 then some (s.length != 0) else none) = some k := ht
      split at h2
      · rename_i hl; exact line_le hl
      · cases h2
end
end DP

/-! DpEnum: enumerate(t), t a tuple. -/
namespace DP
open PySem PySem.Spec
    PyProof.Rows L2

set_option
    maxHeartbeats 1000000 in
theorem meets_enum1 {v : Value} {ob : Obj} {Hq : Heap → Prop} (B : Begins v ob Hq) :
    Meets (Builtin.«enumerate.__new__» ⟨[.type "enumerate", v], []⟩) (fun _ R s => Hq s.heap ∧
      R (.ok (.ret (.ref (s.heap.push ob).objs.size))) { s with heap := (s.heap.push ob).push { cls := .type "enumerate", data := .fields #[.none, .bool false, .ref s.heap.objs.size, rawInt 0, .none, .none] } }) :=
  .of_wp fun prog w A R s hyp => by
    obtain ⟨hp, gn, dr, tk, os⟩ := s
    obtain ⟨k1, k2⟩ := hyp
    have hsub := sub_enumerate
    have qi : ∀ {A' : Around} {E' : Value → Shared → Prop} {Q' : Value → Shared → Prop}, Q' (.ref hp.objs.size) ⟨hp.push ob, gn, dr, tk, os⟩ → wpAny (model prog w) A' (pyIter v) Q' E' ⟨hp, gn, dr, tk, os⟩ :=
      fun z => B.iter prog w _ _ ⟨hp, gn, dr, tk, os⟩ _ k1 z
    wp_walk using qi
    refine wpAny_stack_any fun st =>
        wpAny_pure ?_
    split
    · rename_i c _ _ _ _ _
      cases (c == Value.type
          "enumerate")
      · wp_walk using qi
        exact ⟨_, rfl, k2⟩
      · wp_walk using qi
        exact ⟨_, rfl, k2⟩
    · wp_walk using qi
      exact ⟨_, rfl, k2⟩
theorem call_enum1 {prog : Program} {w : World} {A : Around} {E : Value → Shared → Prop} {s : Shared} {v : Value} {ob : Obj} {Hq : Heap → Prop} {Q : Value → Shared → Prop} (B : Begins v ob Hq) (h1 : Hq s.heap)
    (h : ∀ h', IsEnum h' (s.heap.objs.size + 1) s.heap.objs.size 0 .none → h'.get? s.heap.objs.size = some ob → h'.objs.size = s.heap.objs.size + 2 →
      (∀ b o,
          s.heap.get? b = some o → h'.get? b = some o) → Q (.ref (s.heap.objs.size + 1)) { s with heap := h' }) :
    wpAny (model prog w) A (call (.type "enumerate") [v]) Q E s := by
  refine callType_new F.called_enumerate (by decide) (F.typeCall_enumerate_1 _) (F.newCall_enumerate_1 _) (fun z => F.args_object_init_2 z _) F.entry_enumerate_new (meets_enum1 B) ⟨h1, ?_⟩
  have hz : (s.heap.push ob).objs.size = s.heap.objs.size + 1 := Heap.size_push ..
  show _ ∧ _
  rw [hz]
  have he : IsEnum ((s.heap.push ob).push { cls := .type "enumerate", data := .fields #[.none, .bool false, .ref s.heap.objs.size, rawInt 0, .none, .none] }) (s.heap.objs.size + 1) s.heap.objs.size 0 .none := by
    have q := Heap.get?_push_size (s.heap.push ob) (o := { cls := .type "enumerate", data := .fields #[.none, .bool false, .ref s.heap.objs.size, rawInt 0, .none, .none] }) rfl
    rw [hz] at q
    exact q
  exact ⟨⟨_, he, rfl⟩, h _ he (Heap.get?_push_of_some _ (Heap.get?_push_size _ B.free)) (by rw [Heap.size_push, hz]) fun b u x => Heap.get?_push_of_some _ (Heap.get?_push_of_some _ x)⟩

/-- the tuple at a, each item in a new pair -/
def IteT (K : PySem.W.Frag) (a : Addr) : L2.It :=
  ⟨fun i H => ∃ (xs : List V) (x : V), SqT K H a xs ∧ xs[i]? = some x, fun i H v H' => ∃ T x, v = .ref T ∧ H T = none ∧ H' = upd H T (.tup [.int (i : Nat), x]) ∧ ∀ xs, SqT K H a xs → xs[i]? = some x, fun i H => ∃ xs : List V, SqT K H a xs ∧ xs.length = i⟩
theorem enum_ne {h : Heap} {e it a : Addr} {i : Int} {old : Value} {items : Array Value} (he : IsEnum h e it i old) (ht : IsTup h a items) : e ≠ a := by
  intro z
  subst z
  obtain ⟨o, h1, h2, _⟩ := ht
  have he' : h.get? e = some _ := he
  rw [he'] at h1
  cases h1
  have h3 : Value.type "enumerate" = Value.type "tuple" := h2
  injection h3 with h4
  exact absurd h4 (by decide)
theorem turn_enumT {P : Program} {w : World} {K : PySem.W.Frag} {elts : List Expr} {kk : Nat} {tpos : Pos} (a e it : Addr) :
    Turn P w K (.Tuple elts kk tpos) (IteT K a) [e, it] e (fun i h => (∃ old, IsEnum h e it ((i : Nat) : Int) old) ∧ h.IsTupleIter it a i ∧ e ≠ it ∧ a ≠ it) where
  mem := by simp
  obj := fun i h st b hb => by
    obtain ⟨⟨old, he⟩, ⟨o,
        ho, hc, hd⟩, _⟩ := st
    rcases (show b = e ∨ b = it by simpa using hb) with z | z
    · subst z; exact ⟨_, he, fun v q => nomatch q⟩
    · subst z; exact ⟨o, ho, fun v q => by rw [hd] at q; cases q⟩
  keep := fun i h h' st k => let ⟨⟨old, he⟩, hi, hne⟩ := st; ⟨⟨old,
      k e (by simp) _ he⟩, hi.at fun o q => k it (by simp) o q, hne⟩
  item := by
    intro X hP hw hK hc i pn sh τ Hh E Iv hf st hg
    subst hP hw hK
    obtain ⟨⟨old, he⟩, hit, hne, hna⟩ := st
    obtain ⟨xs, x, hq, hx⟩ := hg
    obtain ⟨us, rv, pt, hz⟩ := Iv.tuple hq
    obtain ⟨u, hu,
        ru⟩ := rv.get hx
    have hel : e < sh.heap.objs.size := Heap.lt_size he
    have hil : it < sh.heap.objs.size := by obtain ⟨_, q, _⟩ := hit; exact Heap.lt_size q
    have hea : e ≠ a := enum_ne he pt
    have hi : i < us.toArray.size := by rw [List.size_toArray]; exact (List.getElem?_eq_some_iff.mp hu).1
    refine wpAny_pyNext_enum_itemD (Draws.tuple (A := X.A.in1) (Iv.ok.hd hc) it a hna us.toArray) he ⟨hit, pt⟩ hi hne (by simp [hne, hea]) fun y h1 tk hy ho hst hT hsz hk => ?_
    have ey : y = u := by
      have e1 : us.toArray[i]? = some y := hy
      rw [List.getElem?_toArray, hu] at e1
      cases e1
      rfl
    subst ey
    refine ⟨_, rfl, wpAny_letOwnedTupleGo_enum (s := { sh with heap := h1, toks := tk + 1 }) ho fun h2 he' sb => ?_⟩
    have hT2 : h2.get? sh.heap.objs.size = some { cls := .type "tuple", data := .seq #[.int i tk, y] } := (sb.2 _ (Nat.ne_of_gt hel)).trans hT
    have new : ObjOk X.prog X.w (upd Hh sh.heap.objs.size (.tup [.int (i : Nat), x])) h2 sh.heap.objs.size (.tup [.int (i : Nat), x]) :=
      ⟨by show 2 ≤ sizeLine; decide, [.int i tk, y], .cons ⟨_, rfl⟩ (.cons ru .nil), ⟨_, hT2, rfl, _, rfl⟩⟩
    have I1 : Inv X pn τ (upd Hh sh.heap.objs.size (.tup [.int (i : Nat), x])) { sh with heap := h2, toks := tk + 1 } :=
      Iv.turnedNew (ch := [e, it]) (fun b ob hb q => (sb.2 b (fun z => hb (by simp [z]))).trans (hk b ob (fun z => hb (by simp [z])) (fun z => hb (by simp [z])) q)) hf (Nat.le_refl _) new
    refine ⟨.ref sh.heap.objs.size, _, I1, rfl, ⟨_, x, rfl, Iv.hok.fresh (Nat.le_refl _), rfl, fun ys hy => by rw [Iv.tuple_inj hy hq]; exact hx⟩, ⟨⟨y, ?_⟩, hst.1.at fun o q => (sb.2 it (Ne.symm hne)).trans q, hne, hna⟩, fun b hb => ?_⟩
    · have e1 : ((i + 1 : Nat) : Int)
        = (i : Int) + 1 := by omega
      rw [e1]
      exact he'
    · have hb' : b < sh.heap.objs.size := by
        rcases (show b = e ∨ b = it by simpa using hb) with z | z
        · subst z; exact hel
        · subst z; exact hil
      rw [upd_ne
          (Nat.ne_of_lt hb')]
      exact (hf b hb).1
  done := by
    intro X hP hw hK hc i pn sh τ Hh E Iv hf st hg
    subst hP hw hK
    obtain ⟨⟨old, he⟩, hit, hne, hna⟩ := st
    obtain ⟨xs, hq, hx⟩ := hg
    obtain ⟨us, rv, pt, hz⟩ := Iv.tuple hq
    have hn : us.toArray.size = i := by rw [List.size_toArray, ← rv.length]; exact hx
    refine wpAny_pyNext_enum_endD (Draws.tuple (A := X.A.in1) (Iv.ok.hd hc) it a hna us.toArray) he ⟨hn ▸ hit, pt⟩ fun h1 hk => ⟨rfl, ?_⟩
    exact Iv.turned (it := it) (t' := sh.toks) (fun b o hb q => hk b o hb q) (hf it (by simp)).1 (hf it (by simp)).2.1 (hf it (by simp)).2.2.2.1 (hf it (by simp)).2.2.2.2.1 (hf it (by simp)).2.2.2.2.2
  self :=
      fun A i s Q E st h => by
    obtain ⟨⟨old, he⟩, _⟩ := st
    exact wpAny_pyIter_enum he h
def iEnumT (K : PySem.W.Frag) (ta : TA) : TI := fun σ H R => ta σ H fun vs H1 => ∃ a xs, vs = [.ref a] ∧ SqT K H1 a xs ∧ R (IteT K a) H1
theorem pi_enumT {X : Cx} {e : Expr} {ta : TA} {p pos tpos : Pos} {elts : List Expr} {kk : Nat} (hg : Gl X "enumerate") (hm : X.mg "enumerate" = none) (ha : PA X [e] ta) (hs : starEach [e] X.env = [(false, eval e X.env)] := by rfl) :
    PI X (.Tuple elts kk tpos) (.Call (.Name "enumerate" p) [e] [] pos) (iEnumT X.K ta) := by
  refine ⟨fun pn sh τ Hh R Iv hyp => ?_⟩
  refine Call_ (ld_blt Iv hg hm boot_enumerate (PyProof.Rows.callWith_type1 (thn (ha.run pos pn sh τ Hh _ Iv hyp) fun us s1 ⟨vs, H1, I1, r1, q1⟩ => ?_) hs rfl))
  obtain ⟨a, xs,
      ex, hq, q⟩ := q1
  subst ex
  obtain ⟨u, rfl,
      ru⟩ := vals1 r1
  cases ru
  obtain ⟨ws, rv, pt, hz⟩ := I1.tuple hq
  have hal : a < s1.heap.objs.size := pt.lt
  refine call_enum1 (begins_tuple a ws.toArray) pt fun h' he hit hsz hk => wpAny_pyIter_enum he ?_
  have I2 : Inv X pn τ H1 { s1 with heap := h' } := I1.kept (t' := s1.toks) hk
  refine ⟨s1.heap.objs.size + 1, [s1.heap.objs.size + 1, s1.heap.objs.size], _, _, H1, rfl, I2, turn_enumT a (s1.heap.objs.size + 1) s1.heap.objs.size, ⟨⟨.none, he⟩, ⟨_, hit, rfl, rfl⟩, Nat.succ_ne_self _, Nat.ne_of_lt hal⟩, fun b hb => ?_, q⟩
  have hle : s1.heap.objs.size ≤ b :=
      by
    rcases (show b = s1.heap.objs.size + 1 ∨ b = s1.heap.objs.size by simpa using hb) with z | z
    · subst z; exact Nat.le_succ _
    · subst z; exact Nat.le_refl _
  exact I1.fpOk hle
      (I1.hok.fresh hle)
end DP

/-! DpStm: what is walked, targets, comprehensions, statements. -/
namespace DP
open PySem PySem.Spec
    PyProof.Rows L2

/-! ### what is walked -/
/-- what a turn yields: data, or (y) a new pair -/
def YOk (G : Gx) (F : Hp) (y : Bool) (d : D) (x : V) (H H' : Hp) : Prop :=
  (H' = H ∧ Rep G F d x) ∨ (y = true ∧ ∃ (T : Addr) (vs : List V) (ds : List D), x = .ref T ∧ H T = none ∧ H' = upd H T (.tup vs) ∧ d = .tup ds ∧ Reps G F ds vs)
structure JOk (G : Gx) (y : Bool) (F : Hp) (ds : List D) (J : L2.It) : Prop where
  go : ∀ i H, Same F H → i < ds.length → J.go i H
  stop : ∀ H, Same F H → J.stop ds.length H
  yld : ∀ (i : Nat) (H : Hp) (d : D) (x : V) (H' : Hp), Same F H → ds[i]? = some d → J.yld i H x H' → YOk G F y d x H H'
def IPost (G : Gx) (W : WX) (y : Bool) (P F : Hp) (σ : L2.St) (R : L2.It → Hp → Prop) : DP.R (List D) → Prop
  | .ok ds Γ' => ∀ J F' H', Ext P F F' → EnvOk G P F' H' σ Γ' → JOk G y F' ds J → R J H'
  | .exc c fs Γ' => GoX G W P F σ Γ' c fs
  | .stuck => False
/-- the walk wi walks what it tells -/
def TrI (G : Gx) (W : WX) (y : Bool) (wi : TI) (it : DP.It) : Prop := ∀ (σ : L2.St) (H : Hp) (R : L2.It → Hp → Prop), (∃ P F Γ, EnvOk G P F H σ Γ ∧ IPost G W y P F σ R (it Γ)) → wi σ H R
/-- a target -/
def XOk (G : Gx) (F H : Hp) (y : Bool) (d : D) (x : V) : Prop := Rep G F d x ∨ (y = true ∧ ∃ (T : Addr) (vs : List V) (ds : List D), x = .ref T ∧ H T = some (.tup vs) ∧ d = .tup ds ∧ Reps G F ds vs)
def TrG (G : Gx) (y : Bool) (g : TG) (tg : Tg) : Prop := ∀ (P F H : Hp) (σ : L2.St) (Γ Γ' : Env) (d : D) (x : V) (Q : L2.St → Hp → Prop), EnvOk G P F H σ Γ → XOk G F H y d x → tg d Γ = some Γ' → (∀ σ', EnvOk G P F H σ' Γ' → Q σ' H) → g x σ H Q
def TrGs (G : Gx) (t : TGs) (js : List Nat) : Prop := ∀ (P F H : Hp) (σ : L2.St) (Γ Γ' : Env) (ds : List D) (xs : List V) (Q : L2.St → Hp → Prop), EnvOk G P F H σ Γ → Reps G F ds xs → gs js ds Γ = some Γ' → (∀ σ', EnvOk G P F H σ' Γ' → Q σ' H) → t xs σ H Q

section
variable {G : Gx} {W : WX} {X : Cx} {a b c e o tg iter : Expr} {es rest : List Expr} {pos p apos cpos p2 : Pos} {da db dc : E}

theorem trg_name (i : Nat) : TrG G false (gName i) (gN i) := fun P F H σ Γ Γ' d x Q env hx ht q => by
  cases ht
  rcases hx with hx | ⟨z, _⟩
  · exact q _ (env.setSh hx i)
  · cases z
theorem trgs_nil : TrGs G gNil [] := fun P F H σ Γ Γ' ds xs Q env hr ht q => by
  cases ds with
  | nil => cases ht; exact ⟨hr, q _ env⟩
  | cons d ds => cases ht
theorem trgs_cons {js : List Nat} {t : TGs} (i : Nat) (h : TrGs G t js) : TrGs G (gCons (gName i) t) (i :: js) := fun P F H σ Γ Γ' ds xs Q env hr ht q => by
  cases ds with
  | nil => cases ht
  | cons d ds =>
    obtain ⟨v, r, rfl, h1, h2⟩ := hr
    exact ⟨v, r, rfl, h P F H _ _ Γ' ds r Q (env.setSh h1 i) h2 ht q⟩
theorem gs_len : ∀ (js : List Nat) (ds : List D) (Γ Γ' : Env), gs js ds Γ = some Γ' → ds.length = js.length
  | [], [], _, _, _ => rfl
  | [], _ :: _, _, _, h => by cases h
  | _ :: _, [], _, _, h => by cases h
  | i :: r, d :: ds, Γ, Γ', h => congrArg (· + 1) (gs_len r ds _ Γ' h)
theorem trg_tup {js : List Nat} {t : TGs} {n : Nat} (y : Bool) (ok : Ok G X) (h : TrGs G t js) (hn : js.length = n := by rfl) : TrG G y (gTup X.K n t) (gT js) := fun P F H σ Γ Γ' d x Q env hx ht q => by
  cases d with
  | tup ds =>
    have hl := gs_len js ds Γ Γ' ht
    rcases hx with ⟨ad, ys, rfl, h1, h2⟩ | ⟨_, T, vs, ds', rfl, h1, e, h2⟩
    · exact ⟨ad, ys, rfl, by rw [← ok.K]; exact same_t env.fh h1.sq, by rw [h2.length, hl, hn], h P F H σ Γ Γ' ds ys Q env h2 ht q⟩
    · cases e
      exact ⟨T, vs, rfl, SqT.of h1, by rw [h2.length, hl, hn], h P F H σ Γ Γ' ds vs Q env h2 ht q⟩
  | _ => cases ht

/-- a list or a tuple walked -/
def iSeq (K : PySem.W.Frag) (tl : TE) : TI := fun σ H R => tl σ H fun x H1 => ∃ a, x = .ref a ∧ ((∃ xs, SqL K H1 a xs) ∧ R (Itl K a) H1 ∨ (∃ xs, SqT K H1 a xs) ∧ R (Itt K a) H1)
theorem pi_seq {l : Expr} {tl : TE} (hl : PE X l tl) : PI X tg l (iSeq X.K tl) := by
  refine ⟨fun pn sh τ Hh R Iv hyp => ?_⟩
  refine thn (hl.run pn sh τ Hh _ Iv hyp) fun v s1 ⟨x, H1, I1, r1, q1⟩ => ?_
  obtain ⟨ad, rfl, q1⟩ := q1
  cases r1
  have hnew : ∀ b ∈ [s1.heap.objs.size], FpOk X pn H1 b := fun b hb => by
    rw [List.mem_singleton.mp hb]
    exact I1.fpOk (Nat.le_refl _)
        (I1.hok.fresh (Nat.le_refl _))
  rcases q1 with ⟨⟨xs, hq⟩, q⟩ | ⟨⟨xs, hq⟩, q⟩
  · obtain ⟨us, rv, pl, hz⟩ := I1.list hq
    exact wpAny_pyIter_list pl.isList ⟨s1.heap.objs.size, [s1.heap.objs.size], _, _, H1, rfl, I1.kept (t' := s1.toks) fun b o e => Heap.get?_push_of_some _ e, turn_list ad _, ⟨_, Heap.get?_push_size _ rfl, rfl, rfl⟩, hnew, q⟩
  · obtain ⟨us, rv, pt, hz⟩ := I1.tuple hq
    exact wpAny_pyIter_tuple (show s1.heap.IsTuple ad us.toArray from pt) ⟨s1.heap.objs.size, [s1.heap.objs.size], _, _, H1, rfl, I1.kept (t' := s1.toks) fun b o e => Heap.get?_push_of_some _ e, turn_tuple ad _, ⟨_, Heap.get?_push_size _ rfl, rfl, rfl⟩, hnew, q⟩
/-- a slot's own list is shared -/
theorem freeze_ok {P F H : Hp} {σ : L2.St} {Γ : Env} {o : Opd} {v : V} {d : D} (env : EnvOk G P F H σ Γ) (ho : OpdOk G P F H σ Γ o v) (hd : o.get Γ = some d) : ∃ F1, Ext P F F1 ∧ EnvOk G P F1 H σ (freeze Γ o) ∧ Rep G F1 d v := by
  cases o with
  | val d' => cases hd; exact ⟨F, Ext.refl _ _, env, ho⟩
  | fresh d' => exact OpdOk.strong env ho hd
  | own i =>
    obtain ⟨_, hv⟩ := ho
    have hd : slotD Γ[i]? = some d := hd
    cases hs : Γ[i]? with
    | none => rw [hs] at hd; cases hd
    | some s =>
      rw [hs] at hd
      cases s with
      | no => cases hd
      | ex c fs => cases hd
      | sh d' =>
        cases hd
        obtain ⟨x, h1, h2⟩ := env.slot i _ hs
        rw [hv] at h1
        cases h1
        refine ⟨F, Ext.refl _ _, ?_, h2⟩
        show EnvOk G P F H σ (match Γ[i]? with | some (.ow d) => Γ.set i (.sh d) | _ => Γ)
        rw [hs]
        exact env
      | ow d' =>
        cases hd
        obtain ⟨ad, h1, h2, h3, h4⟩ := env.slot i _ hs
        rw [hv] at h1
        cases h1
        obtain ⟨u, hu⟩ := h4.some
        have rep := h4.freeze hu h3
        refine ⟨upd F ad u, Ext.one u h2 h3, ?_, rep⟩
        show EnvOk G P (upd F ad u) H σ (match Γ[i]? with | some (.ow d) => Γ.set i (.sh d) | _ => Γ)
        rw [hs]
        have e0 : EnvOk G P F H σ (Γ.set i .no) := by
          have z := env.setNo (v := some (.ref ad)) i
          have zz : σ.set i (some (.ref ad)) = σ := by
            apply List.ext_getElem?
            intro j
            by_cases hj : i = j
            · subst hj
              rw [List.getElem?_set_self (len_get hv), hv]
            · rw [List.getElem?_set_ne hj]
          rwa [zz] at z
        have e1 : EnvOk G P (upd F ad u) H σ (Γ.set i .no) := e0.share hu h3 fun j e hj hjv => by
          by_cases hij : i = j
          · subst hij
            rw [List.getElem?_set_self (len_get hs)] at hj
            cases hj
          · rw [List.getElem?_set_ne hij] at hj
            exact hij (env.dis i j ad d e hs hj hv hjv)
        have e2 := e1.setSh rep i
        have zz : σ.set i (some (.ref ad)) = σ := by
          apply List.ext_getElem?
          intro j
          by_cases hj : i = j
          · subst hj
            rw [List.getElem?_set_self (len_get hv), hv]
          · rw [List.getElem?_set_ne hj]
        rw [zz, List.set_set] at e2
        exact e2
theorem seq_items {F H : Hp} {d : D} {v : V} {xs : List D} (ok : Ok G X) (h : Rep G F d v) (hi : items d = some xs) : ∃ ad ys, v = .ref ad ∧ Reps G F xs ys ∧ (SqL X.K F ad ys ∨ SqT X.K F ad ys) := by
  cases d with
  | lst ds => cases hi; obtain ⟨ad, ys, rfl, h1, h2⟩ := h; exact ⟨ad, ys, rfl, h2, .inl (SqL.of h1)⟩
  | scr ds => cases hi; obtain ⟨ad, ys, rfl, h1, h2⟩ := h; exact ⟨ad, ys, rfl, h2, .inl (by rw [← ok.K]; exact h1)⟩
  | tup ds => cases hi; obtain ⟨ad, ys, rfl, h1, h2⟩ := h; exact ⟨ad, ys, rfl, h2, .inr (by rw [← ok.K]; exact h1.sq)⟩
  | _ => cases hi
theorem jok_list {F : Hp} {K : PySem.W.Frag} {ad : Addr} {ys : List V} {xs : List D} (h : SqL K F ad ys) (r : Reps G F xs ys) : JOk G false F xs (Itl K ad) where
  go := fun i H e hi => ⟨ys, ys[i]'(by rw [r.length]; exact hi), e.seq h, List.getElem?_eq_getElem _⟩
  stop := fun H e => ⟨ys, e.seq h, by rw [r.length]; exact Nat.le_refl _⟩
  yld := fun i H d x H' e hd hy => by
    obtain ⟨rfl, hy⟩ := hy
    obtain ⟨w, hw, rw'⟩ := r.get hd
    have := hy ys (e.seq h)
    rw [hw] at this
    cases this
    exact .inl ⟨rfl, rw'⟩
theorem jok_tup {F : Hp} {K : PySem.W.Frag} {ad : Addr} {ys : List V} {xs : List D} (h : SqT K F ad ys) (r : Reps G F xs ys) : JOk G false F xs (Itt K ad) where
  go := fun i H e hi => ⟨ys, ys[i]'(by rw [r.length]; exact hi), same_t e h, List.getElem?_eq_getElem _⟩
  stop := fun H e => ⟨ys, same_t e h, by rw [r.length]; exact Nat.le_refl _⟩
  yld := fun i H d x H' e hd hy => by
    obtain ⟨rfl, hy⟩ := hy
    obtain ⟨w, hw, rw'⟩ := r.get hd
    have := hy ys (same_t e h)
    rw [hw] at this
    cases this
    exact .inl ⟨rfl, rw'⟩
theorem IPost.ext {y : Bool} {P F F1 : Hp} {σ : L2.St} {R : L2.It → Hp → Prop} {r : DP.R (List D)} (e : Ext P F F1) (h : IPost G W y P F σ R r) : IPost G W y P F1 σ R r := by
  cases r with
  | ok b Γ' => exact fun J F' H' e' env => h J F' H' (e.trans e') env
  | exc c fs Γ' => exact GoX.ext e h
  | stuck => exact h
theorem tri_seq (ok : Ok G X) : TrI G W false (iSeq X.K (rd G W da)) (iE da) := fun σ H R hq => by
  obtain ⟨P, F, Γ, env, h⟩ := hq
  refine rd_bindG (Post := fun F r => IPost G W false P F σ R r) env h (fun z => z) (fun _ _ _ z => z) (fun _ _ e z => z.ext e) fun o1 Γ1 v1 F1 H1 e1 env1 ho1 h1 => ?_
  cases hx : o1.get Γ1 with
  | none => simp only [hx] at h1; exact h1.elim
  | some d =>
    simp only [hx] at h1
    cases hi : items d with
    | none => simp only [hi] at h1; exact h1.elim
    | some xs =>
      simp only [hi] at h1
      obtain ⟨F2, e2, env2, r2⟩ := freeze_ok env1 ho1 hx
      obtain ⟨ad, ys, rfl, r, hs⟩ := seq_items (X := X) (H := H1) ok r2 hi
      refine ⟨ad, rfl, ?_⟩
      rcases hs with hs | hs
      · exact .inl ⟨⟨ys, env2.fh.seq hs⟩, h1 _ F2 H1 e2 env2 (jok_list hs r)⟩
      · exact .inr ⟨⟨ys, same_t env2.fh hs⟩, h1 _ F2 H1 e2 env2 (jok_tup hs r)⟩
theorem zInts_get : ∀ (n i : Nat) (l : Int) (d : D), (zInts l n)[i]? = some d → i < n ∧ d = .int (l + i)
  | 0, _, _, _, h => by simp [zInts] at h
  | n + 1, 0, l, d, h => by
    have : D.int l = d := by simpa [zInts] using h
    exact ⟨Nat.succ_pos _, by rw [← this]; simp⟩
  | n + 1, i + 1, l, d, h => by
    have h' : (zInts (l + 1) n)[i]? = some d := by simpa [zInts] using h
    obtain ⟨h1, h2⟩ := zInts_get n i (l + 1) d h'
    refine ⟨by omega, ?_⟩
    rw [h2]
    congr 1
    omega
theorem zInts_len : ∀ (n : Nat) (l : Int), (zInts l n).length = n
  | 0, _ => rfl
  | n + 1, l => congrArg (· + 1) (zInts_len n (l + 1))
theorem stepInts_get : ∀ (n i : Nat) (l c : Int) (d : D), (stepInts l c n)[i]? = some d → i < n ∧ d = .int (l + i * c)
  | 0, _, _, _, _, h => by simp [stepInts] at h
  | n + 1, 0, l, c, d, h => by
    have : D.int l = d := by simpa [stepInts] using h
    exact ⟨Nat.succ_pos _, by rw [← this]; simp⟩
  | n + 1, i + 1, l, c, d, h => by
    have h' : (stepInts (l + c) c n)[i]? = some d := by simpa [stepInts] using h
    obtain ⟨h1, h2⟩ := stepInts_get n i (l + c) c d h'
    refine ⟨by omega, ?_⟩
    rw [h2]
    congr 1
    have : ((i + 1 : Nat) : Int) * c = (i : Int) * c + c := by
      rw [Int.natCast_add, Int.add_mul]
      simp
    omega
theorem stepInts_len : ∀ (n : Nat) (l c : Int), (stepInts l c n).length = n
  | 0, _, _ => rfl
  | n + 1, l, c => congrArg (· + 1) (stepInts_len n (l + c) c)
theorem jok_range {F : Hp} (lo : Int) (n : Nat) : JOk G false F (zInts lo n) (Itr lo n) where
  go := fun i H e hi => by rw [zInts_len] at hi; exact hi
  stop := fun H e => by rw [zInts_len]; exact Nat.le_refl _
  yld := fun i H d x H' e hd hy => by
    obtain ⟨rfl, rfl⟩ := hy
    obtain ⟨_, rfl⟩ := zInts_get n i lo d hd
    exact .inl ⟨rfl, rfl⟩
theorem jok_step {F : Hp} (lo c : Int) (n : Nat) : JOk G false F (stepInts lo c n) (Itc lo c n) where
  go := fun i H e hi => by rw [stepInts_len] at hi; exact hi
  stop := fun H e => by rw [stepInts_len]; exact Nat.le_refl _
  yld := fun i H d x H' e hd hy => by
    obtain ⟨rfl, rfl⟩ := hy
    obtain ⟨_, rfl⟩ := stepInts_get n i lo c d hd
    exact .inl ⟨rfl, rfl⟩
theorem inLine_of {i : Int} (h : inLine i = true) : -(2 ^ 62) ≤ i ∧ i < 2 ^ 62 := by
  unfold inLine at h
  simpa only [Bool.and_eq_true, decide_eq_true_eq] using h
theorem tri_r1 : TrI G W false (iRng1 (rdA G W (aCons da aNil))) (iR1 da) := fun σ H R hq => by
  obtain ⟨P, F, Γ, env, h⟩ := hq
  refine ⟨P, F, Γ, env, ?_⟩
  have h : IPost G W false P F σ R ((da Γ).bind fun x Γ1 => match x with | .val (.int j) => if inLine j then .ok (zInts 0 j.toNat) Γ1 else .stuck | _ => .stuck) := h
  show APost G W P F σ _ ((da Γ).bind fun x Γ1 => (DP.R.ok [] Γ1).bind fun xs Γ2 => .ok (x :: xs) Γ2)
  cases hd : da Γ with
  | exc c fs Γ1 => rw [hd] at h; exact h
  | stuck => rw [hd] at h; exact h.elim
  | ok o Γ1 =>
    rw [hd] at h
    intro vs F' H' e' env' hw
    obtain ⟨v, r, rfl, hv, hr⟩ := hw
    rw [show r = [] from hr]
    cases o with
    | fresh d => exact h.elim
    | own i => exact h.elim
    | val d =>
      cases d with
      | int j =>
        dsimp only [DP.R.bind] at h
        split at h
        · rename_i hl
          obtain ⟨l1, l2⟩ := inLine_of hl
          have hv' : v = .int j := by
            rcases hv with ⟨d', e, hr⟩ | ⟨i, e, _⟩
            · cases e; exact hr
            · cases e
          exact ⟨j, by rw [hv'], l1, l2, h _ F' H' e' env' (jok_range 0 _)⟩
        · exact h.elim
      | _ => exact h.elim
theorem wopd_int {F : Hp} {σ : L2.St} {i : Int} {v : V} (hv : (∃ d, (Opd.val (.int i)).str = some d ∧ Rep G F d v) ∨ ∃ j, Opd.val (.int i) = .own j ∧ σ[j]? = some (some v)) : v = .int i := by
  rcases hv with ⟨d', e, hr⟩ | ⟨j, e, _⟩
  · cases e; exact hr
  · cases e
/-- two ints as arguments -/
theorem args2 {k : Int → Int → Env → DP.R (List D)} {Post : Hp → DP.R (List D) → Prop} {R0 : List V → Hp → Prop} {P F H : Hp} {σ : L2.St} {Γ : Env} (env : EnvOk G P F H σ Γ)
    (h : Post F ((da Γ).bind fun x Γ1 => (db Γ1).bind fun y Γ2 => match x, y with | .val (.int i), .val (.int j) => k i j Γ2 | _, _ => .stuck)) (hs : ∀ F, Post F .stuck → False)
    (hx : ∀ F c fs Γ1, Post F (.exc c fs Γ1) → GoX G W P F σ Γ1 c fs) (hm : ∀ F F' r, Ext P F F' → Post F r → Post F' r)
    (hk : ∀ i j Γ2 F' H', Ext P F F' → EnvOk G P F' H' σ Γ2 → Post F' (k i j Γ2) → R0 [.int i, .int j] H') : rdA G W (aCons da (aCons db aNil)) σ H R0 := by
  refine ⟨P, F, Γ, env, ?_⟩
  show APost G W P F σ R0 ((da Γ).bind fun x Γ1 => ((db Γ1).bind fun y Γ2 => (DP.R.ok [] Γ2).bind fun xs Γ3 => .ok (y :: xs) Γ3).bind fun xs Γ2 => .ok (x :: xs) Γ2)
  cases hd : da Γ with
  | exc c fs Γ1 => rw [hd] at h; exact hx F _ _ _ h
  | stuck => rw [hd] at h; exact (hs F h).elim
  | ok o1 Γ1 =>
    rw [hd] at h
    dsimp only [DP.R.bind] at h ⊢
    cases he : db Γ1 with
    | exc c fs Γ2 => rw [he] at h; exact hx F _ _ _ h
    | stuck => rw [he] at h; exact (hs F h).elim
    | ok o2 Γ2 =>
      rw [he] at h
      intro vs F' H' e' env' hw
      obtain ⟨v, r, rfl, hv, w, r2, rfl, hw, hr⟩ := hw
      rw [show r2 = [] from hr]
      cases o1 with
      | fresh d => exact (hs F h).elim
      | own i => exact (hs F h).elim
      | val d =>
        cases d with
        | int i =>
          cases o2 with
          | fresh d => exact (hs F h).elim
          | own i => exact (hs F h).elim
          | val d2 =>
            cases d2 with
            | int j =>
              rw [wopd_int hv, wopd_int hw]
              exact hk i j Γ2 F' H' e' env' (hm F F' _ e' h)
            | _ => exact (hs F h).elim
        | _ => exact (hs F h).elim
theorem tri_r2 : TrI G W false (iRng2 (rdA G W (aCons da (aCons db aNil)))) (iR2 da db) := fun σ H R hq => by
  obtain ⟨P, F, Γ, env, h⟩ := hq
  refine args2 (Post := fun F r => IPost G W false P F σ R r) (k := fun i j Γ2 => if inLine i && inLine j then .ok (zInts i (j - i).toNat) Γ2 else .stuck) env h (fun _ z => z) (fun _ _ _ _ z => z) (fun _ _ _ e z => z.ext e) fun i j Γ2 F' H' e' env' q => ?_
  split at q
  · rename_i hl
    rw [Bool.and_eq_true] at hl
    obtain ⟨l1, l2⟩ := inLine_of hl.1
    obtain ⟨l3, l4⟩ := inLine_of hl.2
    exact ⟨i, j, rfl, ⟨l1, l2, l3, l4⟩, q _ F' H' (Ext.refl _ _) env' (jok_range i _)⟩
  · exact q.elim
/-- range(a, b, -1) walked -/
theorem tri_rd {ta : TA} (ht : ∀ σ H (Q : List V → Hp → Prop), rdA G W (aCons da (aCons db aNil)) σ H (fun vs H1 => Q (vs ++ [.int (-1)]) H1) → ta σ H Q) : TrI G W false (iRng3 ta) (iRd da db) := fun σ H R hq => by
  obtain ⟨P, F, Γ, env, h⟩ := hq
  refine ht σ H _ ?_
  refine args2 (Post := fun F r => IPost G W false P F σ R r) (k := fun i j Γ2 => if inLine i && inLine j then .ok (stepInts i (-1) (i - j).toNat) Γ2 else .stuck) env h (fun _ z => z) (fun _ _ _ _ z => z) (fun _ _ _ e z => z.ext e) fun i j Γ2 F' H' e' env' q => ?_
  split at q
  · rename_i hl
    rw [Bool.and_eq_true] at hl
    obtain ⟨l1, l2⟩ := inLine_of hl.1
    obtain ⟨l3, l4⟩ := inLine_of hl.2
    exact ⟨i, j, -1, _, rfl, RgC.neg l1 l2 l3 l4, q _ F' H' (Ext.refl _ _) env' (jok_step i (-1) _)⟩
  · exact q.elim
theorem da3m1 (h : PA X [a, b] (rdA G W (aCons da (aCons db aNil)))) (hb : PE X b (rd G W db)) (ha : PE X a (rd G W da)) (hc : PE X c (tC (.int (-1)))) (hs : starEach [a, b, c] X.env = (false, eval a X.env) :: starEach [b, c] X.env := by rfl) (hs2 : starEach [b, c] X.env = (false, eval b X.env) :: starEach [c] X.env := by rfl)
    (hs3 : starEach [c] X.env = (false, eval c X.env) :: starEach [] X.env := by rfl) : PA X [a, b, c] (tCons (rd G W da) (tCons (rd G W db) (tCons (tC (.int (-1))) tNil))) := pa_cons ha (pa_cons hb (pa_cons hc pa_nil hs3) hs2) hs
theorem ta3 : ∀ σ H (Q : List V → Hp → Prop), rdA G W (aCons da (aCons db aNil)) σ H (fun vs H1 => Q (vs ++ [.int (-1)]) H1) → tCons (rd G W da) (tCons (rd G W db) (tCons (tC (.int (-1))) tNil)) σ H Q := fun σ H Q hq => by
  obtain ⟨P, F, Γ, env, h⟩ := hq
  have h : APost G W P F σ (fun vs H1 => Q (vs ++ [.int (-1)]) H1) ((da Γ).bind fun x Γ1 => ((db Γ1).bind fun y Γ2 => (DP.R.ok [] Γ2).bind fun xs Γ3 => .ok (y :: xs) Γ3).bind fun xs Γ2 => .ok (x :: xs) Γ2) := h
  refine rd_bindG (Post := fun F r => APost G W P F σ (fun vs H1 => Q (vs ++ [.int (-1)]) H1) r) env h (fun z => z) (fun _ _ _ z => z) (fun _ _ e z => z.ext e) fun o1 Γ1 v1 F1 H1 e1 env1 ho1 h1 => ?_
  obtain ⟨F2, e2, env2, hw⟩ := wopd_of env1 ho1
  have h2 := APost.ext e2 h1
  refine ⟨P, F2, Γ1, env2, ?_⟩
  cases he : db Γ1 with
  | exc c fs Γ2 => rw [he] at h2; exact h2
  | stuck => rw [he] at h2; exact h2.elim
  | ok o2 Γ2 =>
    rw [he] at h2
    intro v2 F3 H3 e3 env3 ho3
    obtain ⟨F4, e4, env4, hw2⟩ := wopd_of env3 ho3
    exact h2 [v1, v2] F4 H3 (e3.trans e4) env4 ⟨v1, _, rfl, hw F4 (e3.sub.trans e4.sub), v2, _, rfl, hw2 F4 (Same.refl _), rfl⟩
/-- enumerate of a list or a tuple -/
def iEnumS (K : PySem.W.Frag) (tl : TE) : TI := fun σ H R => tl σ H fun x H1 => ∃ a, x = .ref a ∧ ((∃ xs, SqL K H1 a xs) ∧ R (Ite K a) H1 ∨ (∃ xs, SqT K H1 a xs) ∧ R (IteT K a) H1)
theorem pi_enumS {tpos : Pos} {elts : List Expr} {kk : Nat} {tl : TE} (hg : Gl X "enumerate") (hm : X.mg "enumerate" = none) (hl : PE X e tl) (hs : starEach [e] X.env = (false, eval e X.env) :: starEach [] X.env := by rfl) :
    PI X (.Tuple elts kk tpos) (.Call (.Name "enumerate" p) [e] [] pos) (iEnumS X.K tl) := by
  refine ⟨fun pn sh τ Hh R Iv hyp => ?_⟩
  refine Call_ (ld_blt Iv hg hm boot_enumerate (PyProof.Rows.callWith_type1 (args_cons (thn (hl.run pn sh τ Hh _ Iv hyp) fun v s1 ⟨x, H1, I1, r1, q1⟩ => args_nil ?_) hs) hs rfl))
  obtain ⟨ad, rfl, q1⟩ := q1
  cases r1
  have hle : ∀ b ∈ [s1.heap.objs.size + 1, s1.heap.objs.size], s1.heap.objs.size ≤ b := fun b hb => by
    rcases (show b = s1.heap.objs.size + 1 ∨ b = s1.heap.objs.size by simpa using hb) with z | z
    · subst z; exact Nat.le_succ _
    · subst z; exact Nat.le_refl _
  rcases q1 with ⟨⟨xs, hq⟩, q⟩ | ⟨⟨xs, hq⟩, q⟩
  · obtain ⟨ws, rv, pl, hz⟩ := I1.list hq
    refine call_enumerate_list pl.isList fun h' he hit hsz hk => wpAny_pyIter_enum he ?_
    have I2 : Inv X pn τ H1 { s1 with heap := h' } := I1.kept (t' := s1.toks) hk
    exact ⟨s1.heap.objs.size + 1, [s1.heap.objs.size + 1, s1.heap.objs.size], _, _, H1, rfl, I2, turn_enum ad (s1.heap.objs.size + 1) s1.heap.objs.size, ⟨⟨.none, he⟩, hit, Nat.succ_ne_self _⟩, fun b hb => I1.fpOk (hle b hb) (I1.hok.fresh (hle b hb)), q⟩
  · obtain ⟨ws, rv, pt, hz⟩ := I1.tuple hq
    refine call_enum1 (begins_tuple ad ws.toArray) pt fun h' he hit hsz hk => wpAny_pyIter_enum he ?_
    have I2 : Inv X pn τ H1 { s1 with heap := h' } := I1.kept (t' := s1.toks) hk
    exact ⟨s1.heap.objs.size + 1, [s1.heap.objs.size + 1, s1.heap.objs.size], _, _, H1, rfl, I2, turn_enumT ad (s1.heap.objs.size + 1) s1.heap.objs.size, ⟨⟨.none, he⟩, ⟨_, hit, rfl, rfl⟩, Nat.succ_ne_self _, Nat.ne_of_lt pt.lt⟩, fun b hb => I1.fpOk (hle b hb) (I1.hok.fresh (hle b hb)), q⟩
theorem enumD_get : ∀ (xs : List D) (n : Int) (i : Nat) (d : D), (enumD n xs)[i]? = some d → ∃ x, xs[i]? = some x ∧ d = .tup [.int (n + i), x]
  | [], _, _, _, h => by simp [enumD] at h
  | x :: r, n, 0, d, h => by
    have : D.tup [.int n, x] = d := by simpa [enumD] using h
    exact ⟨x, rfl, by rw [← this]; simp⟩
  | x :: r, n, i + 1, d, h => by
    have h' : (enumD (n + 1) r)[i]? = some d := by simpa [enumD] using h
    obtain ⟨y, h1, h2⟩ := enumD_get r (n + 1) i d h'
    refine ⟨y, by simpa using h1, ?_⟩
    rw [h2]
    congr 3
    omega
theorem enumD_len : ∀ (xs : List D) (n : Int), (enumD n xs).length = xs.length
  | [], _ => rfl
  | _ :: r, n => congrArg (· + 1) (enumD_len r (n + 1))
theorem enum_pair {F : Hp} {i : Nat} {x : D} {w : V} (r : Rep G F x w) : Reps G F [.int (0 + (i : Nat)), x] [.int (i : Nat), w] := ⟨_, _, rfl, by show V.int _ = V.int _; congr 1; omega, Reps.one r⟩
theorem jok_enumL {F : Hp} {K : PySem.W.Frag} {ad : Addr} {ys : List V} {xs : List D} (h : SqL K F ad ys) (r : Reps G F xs ys) : JOk G true F (enumD 0 xs) (Ite K ad) where
  go := fun i H e hi => by
    rw [enumD_len] at hi
    exact ⟨ys, ys[i]'(by rw [r.length]; exact hi), e.seq h, List.getElem?_eq_getElem _⟩
  stop := fun H e => ⟨ys, e.seq h, by rw [r.length, enumD_len]; exact Nat.le_refl _⟩
  yld := fun i H d x H' e hd hy => by
    obtain ⟨x0, hx0, rfl⟩ := enumD_get xs 0 i d hd
    obtain ⟨T, w, rfl, hT, rfl, hw⟩ := hy
    obtain ⟨w', hw', rw'⟩ := r.get hx0
    have := hw ys (e.seq h)
    rw [hw'] at this
    cases this
    exact .inr ⟨rfl, T, _, _, rfl, hT, rfl, rfl, enum_pair rw'⟩
theorem jok_enumT {F : Hp} {K : PySem.W.Frag} {ad : Addr} {ys : List V} {xs : List D} (h : SqT K F ad ys) (r : Reps G F xs ys) : JOk G true F (enumD 0 xs) (IteT K ad) where
  go := fun i H e hi => by
    rw [enumD_len] at hi
    exact ⟨ys, ys[i]'(by rw [r.length]; exact hi), same_t e h, List.getElem?_eq_getElem _⟩
  stop := fun H e => ⟨ys, same_t e h, by rw [r.length, enumD_len]⟩
  yld := fun i H d x H' e hd hy => by
    obtain ⟨x0, hx0, rfl⟩ := enumD_get xs 0 i d hd
    obtain ⟨T, w, rfl, hT, rfl, hw⟩ := hy
    obtain ⟨w', hw', rw'⟩ := r.get hx0
    have := hw ys (same_t e h)
    rw [hw'] at this
    cases this
    exact .inr ⟨rfl, T, _, _, rfl, hT, rfl, rfl, enum_pair rw'⟩
theorem tri_enum (ok : Ok G X) : TrI G W true (iEnumS X.K (rd G W da)) (iEnum da) := fun σ H R hq => by
  obtain ⟨P, F, Γ, env, h⟩ := hq
  refine rd_bindG (Post := fun F r => IPost G W true P F σ R r) env h (fun z => z) (fun _ _ _ z => z) (fun _ _ e z => z.ext e) fun o1 Γ1 v1 F1 H1 e1 env1 ho1 h1 => ?_
  cases hx : o1.get Γ1 with
  | none => simp only [hx] at h1; exact h1.elim
  | some d =>
    simp only [hx] at h1
    cases hi : items d with
    | none => simp only [hi] at h1; exact h1.elim
    | some xs =>
      simp only [hi] at h1
      obtain ⟨F2, e2, env2, r2⟩ := freeze_ok env1 ho1 hx
      obtain ⟨ad, ys, rfl, r, hs⟩ := seq_items (X := X) (H := H1) ok r2 hi
      refine ⟨ad, rfl, ?_⟩
      rcases hs with hs | hs
      · exact .inl ⟨⟨ys, env2.fh.seq hs⟩, h1 _ F2 H1 e2 env2 (jok_enumL hs r)⟩
      · exact .inr ⟨⟨ys, same_t env2.fh hs⟩, h1 _ F2 H1 e2 env2 (jok_enumT hs r)⟩
end
end DP

/-! DpStm2: statements, loops, comprehensions, defs. -/
namespace DP
open PySem PySem.Spec
    PyProof.Rows L2

def SPost (G : Gx) (W : WX) (P F : Hp) (D : Ends) : SR → Prop
  | .next Γ' => ∀ σ' F' H', Ext P F F' → EnvOk G P F' H' σ' Γ' → D.nx σ' H'
  | .ret d => ∀ v F' H', Ext P F F' → Same P H' → Same F' H' → Rep G F' d v → D.rt v H'
  | .brk Γ' => ∀ σ' F' H', Ext P F F' → EnvOk G P F' H' σ' Γ' → D.bk σ' H'
  | .cont Γ' => ∀ σ' F' H', Ext P F F' → EnvOk G P F' H' σ' Γ' → D.ct σ' H'
  | .exc c fs Γ' => ∀ σ' F' H' cls d, Ext P F F' → EnvOk G P F' H' σ' Γ' → ExcOk G F' c fs cls d H' → W cls d σ' H'
  | .stuck => False
def rs (G : Gx) (W : WX) (s : DP.S) : TS := fun D σ H => ∃ P F Γ, EnvOk G P F H σ Γ ∧ SPost G W P F D (s Γ)

section
variable {G : Gx} {W : WX} {X : Cx} {a b c e o tg iter : Expr} {es : List Expr} {st : Stmt} {body sts : List Stmt} {pos p apos cpos p2 : Pos} {da db dc : E} {sa sb : DP.S}
variable {P F F1 H : Hp} {σ : L2.St} {Γ : Env} {D : Ends}

theorem SPost.ext {r : SR} (e : Ext P F F1) (h : SPost G W P F D r) : SPost G W P F1 D r := by
  cases r with
  | next Γ' => exact fun σ' F' H' e' env => h σ' F' H' (e.trans e') env
  | ret d => exact fun v F' H' e' => h v F' H' (e.trans e')
  | brk Γ' => exact fun σ' F' H' e' env => h σ' F' H' (e.trans e') env
  | cont Γ' => exact fun σ' F' H' e' env => h σ' F' H' (e.trans e') env
  | exc c fs Γ' => exact fun σ' F' H' cls d e' env ex => h σ' F' H' cls d (e.trans e') env ex
  | stuck => exact h
/-- an expression within a statement -/
theorem rd_s {e : E} {k : Opd → Env → SR} {R0 : VK} (env : EnvOk G P F H σ Γ) (h : SPost G W P F D ((e Γ).toSB k))
    (hk : ∀ o Γ1 v F' H', Ext P F F' → EnvOk G P F' H' σ Γ1 → OpdOk G P F' H' σ Γ1 o v → SPost G W P F' D (k o Γ1) → R0 v H') : rd G W e σ H R0 := by
  refine ⟨P, F, Γ, env, ?_⟩
  cases he : e Γ with
  | ok o Γ1 =>
    rw [he] at h
    exact fun v F' H' e' env' ho => hk o Γ1 v F' H' e' env' ho (SPost.ext e' h)
  | exc c fs Γ1 =>
    rw [he] at h
    exact fun F' H' cls d e' env' ex => h σ F' H' cls d e' env' ex
  | stuck => rw [he] at h; exact h.elim
theorem rdT_s {e : T} {k : Bool → Env → SR} {R0 : Bool → Hp → Prop} (env : EnvOk G P F H σ Γ) (h : SPost G W P F D ((e Γ).toSB k))
    (hk : ∀ o Γ1 F' H', Ext P F F' → EnvOk G P F' H' σ Γ1 → SPost G W P F' D (k o Γ1) → R0 o H') : rdT G W e σ H R0 := by
  refine ⟨P, F, Γ, env, ?_⟩
  cases he : e Γ with
  | ok o Γ1 =>
    rw [he] at h
    exact fun F' H' e' env' => hk o Γ1 F' H' e' env' (SPost.ext e' h)
  | exc c fs Γ1 =>
    rw [he] at h
    exact fun F' H' cls d e' env' ex => h σ F' H' cls d e' env' ex
  | stuck => rw [he] at h; exact h.elim

/-! ### blocks -/
theorem dss_nil : PSs X [] (rs G W sNext) := by
  refine PSs_imp pss_nil fun D σ H hq => ?_
  obtain ⟨P, F, Γ, env, h⟩ := hq
  exact h σ F H (Ext.refl _ _) env
theorem dss_cons (h1 : PS X st (rs G W sa)) (h2 : PSs X sts (rs G W sb)) : PSs X (st :: sts) (rs G W (sSeq sa sb)) := by
  refine PSs_imp (pss_cons h1 h2) fun D σ H hq => ?_
  obtain ⟨P, F, Γ, env, h⟩ := hq
  have h : SPost G W P F D (sSeq sa sb Γ) := h
  unfold sSeq at h
  refine ⟨P, F, Γ, env, ?_⟩
  cases ha : sa Γ with
  | next Γ1 =>
    rw [ha] at h
    exact fun σ' F' H' e' env' => ⟨P, F', Γ1, env', SPost.ext e' h⟩
  | ret d => rw [ha] at h; exact h
  | brk Γ1 => rw [ha] at h; exact h
  | cont Γ1 => rw [ha] at h; exact h
  | exc c fs Γ1 => rw [ha] at h; exact h
  | stuck => rw [ha] at h; exact h
theorem dss_one (h1 : PS X st (rs G W sa)) : PSs X [st] (rs G W sa) := pss_one h1

/-! ### plain statements -/
theorem set_ok {o : Opd} {v : V} (env : EnvOk G P F H σ Γ) (ho : OpdOk G P F H σ Γ o v) (i : Nat) (h : SPost G W P F D (setR i o Γ)) : D.nx (σ.set i (some v)) H := by
  cases o with
  | val d => exact h _ F H (Ext.refl _ _) (env.setSh ho i)
  | fresh d =>
    obtain ⟨ad, rfl, h2, h3, h4, h5⟩ := ho
    exact h _ F H (Ext.refl _ _) (env.setOw h2 h3 h4 h5 i)
  | own j => exact h.elim
theorem set_tr (i : Nat) (D : Ends) (σ : L2.St) (H : Hp) (hq : rs G W (sSet i da) D σ H) : tAsg (rd G W da) (gName i) D σ H := by
  obtain ⟨P, F, Γ, env, h⟩ := hq
  exact rd_s env h fun o1 Γ1 v1 F1 H1 e1 env1 ho1 h1 => set_ok env1 ho1 i h1
theorem ds_set {x : Str} {p' : Pos} (i : Nat) (hN : X.N.Nodup) (he : PE X e (rd G W da)) (hi : X.N[i]? = some x := by rfl) (hx : Loc X.env.scope x := by first | exact Or.inl rfl | exact Or.inr rfl) (hs : swapsWith e (some (.Name x p')) pos.line X.env = pure false := by rfl) (hf : X.fn x = true ∨ X.env.scope.names.lookup x = some .local := by first | exact .inl rfl | exact .inr rfl | assumption) :
    PS X (.Assign [.Name x p'] e pos) (rs G W (sSet i da)) := PS_imp (ps_set hN hi hx he hs hf) (set_tr i)
theorem ds_tg {g : TG} {tgD : Tg} (he : PE X e (rd G W da)) (hg : PG X tg g) (tr : TrG G false g tgD) (hs : swapsWithSole [tg] e pos.line X.env = pure false := by rfl) (hw : swappedStores [tg] e X.env = pure none := by rfl) (h1 : (assignEach [tg] X.env).map (fun z => z.2) = [assign tg X.env] := by rfl) : PS X (.Assign [tg] e pos) (rs G W (sTg tgD da)) := by
  refine PS_imp (ps_asg he hg hs hw h1) fun D σ H hq => ?_
  obtain ⟨P, F, Γ, env, h⟩ := hq
  refine rd_s env h fun o1 Γ1 v1 F1 H1 e1 env1 ho1 h1 => ?_
  cases hx : o1.str with
  | none => simp only [hx] at h1; exact h1.elim
  | some d =>
    simp only [hx] at h1
    obtain ⟨F2, e2, env2, r2⟩ := OpdOk.strong env1 ho1 hx
    cases ht : tgD d Γ1 with
    | none => simp only [ht] at h1; exact h1.elim
    | some Γ2 =>
      simp only [ht] at h1
      exact tr P F2 H1 σ Γ1 Γ2 d v1 D.nx env2 (.inl r2) ht fun σ' env' => h1 σ' F2 H1 e2 env'
theorem ds_drop (he : PE X e (rd G W da)) (hs : swapsWith e none pos.line X.env = pure false := by rfl) : PS X (.Expr e pos) (rs G W (sDrop da)) := by
  refine PS_imp (ps_expr he hs) fun D σ H hq => ?_
  obtain ⟨P, F, Γ, env, h⟩ := hq
  exact rd_s env h fun o1 Γ1 v1 F1 H1 e1 env1 ho1 h1 => h1 σ F1 H1 (Ext.refl _ _) env1
theorem ds_ret (he : PE X e (rd G W da)) : PS X (.Return (some e) pos) (rs G W (sRet da)) := by
  refine PS_imp (ps_ret he) fun D σ H hq => ?_
  obtain ⟨P, F, Γ, env, h⟩ := hq
  refine rd_s env h fun o1 Γ1 v1 F1 H1 e1 env1 ho1 h1 => ?_
  cases hx : o1.get Γ1 with
  | none => simp only [hx] at h1; exact h1.elim
  | some d =>
    simp only [hx] at h1
    obtain ⟨F2, e2, env2, r2⟩ := freeze_ok env1 ho1 hx
    exact h1 v1 F2 H1 e2 env2.pf env2.fh r2
theorem ds_retN : PS X (.Return none pos) (rs G W sRetN) := by
  refine PS_imp ps_retN fun D σ H hq => ?_
  obtain ⟨P, F, Γ, env, h⟩ := hq
  exact h .non F H (Ext.refl _ _) env.pf env.fh rfl
theorem ds_if {tc : T} (hc : PT X c (rdT G W tc)) (ha : PSs X body (rs G W sa)) (hb : PSs X sts (rs G W sb)) : PS X (.If c body sts pos) (rs G W (sIf tc sa sb)) := by
  refine PS_imp (ps_if hc ha hb) fun D σ H hq => ?_
  obtain ⟨P, F, Γ, env, h⟩ := hq
  refine rdT_s env h fun k Γ1 F1 H1 e1 env1 h1 => ?_
  cases k with
  | true => exact ⟨P, F1, Γ1, env1, h1⟩
  | false => exact ⟨P, F1, Γ1, env1, h1⟩
theorem ds_pass : PS X (.Pass pos) (rs G W sNext) := by
  refine PS_imp ps_pass fun D σ H hq => ?_
  obtain ⟨P, F, Γ, env, h⟩ := hq
  exact h σ F H (Ext.refl _ _) env
theorem ds_break : PS X (.Break pos) (rs G W sBrk) := by
  refine PS_imp ps_break fun D σ H hq => ?_
  obtain ⟨P, F, Γ, env, h⟩ := hq
  exact h σ F H (Ext.refl _ _) env
theorem ds_continue : PS X (.Continue pos) (rs G W sCont) := by
  refine PS_imp ps_continue fun D σ H hq => ?_
  obtain ⟨P, F, Γ, env, h⟩ := hq
  exact h σ F H (Ext.refl _ _) env
theorem ds_raise {cn : Str} {t : L2.St → Hp → XK → Prop} (hc : X.calm = true) (tk : Takes X W) (he : PMk X e t) (ht : ∀ σ H (Q : XK), (∀ cls, G.mg cn = some cls → Q cls none H) → t σ H Q) : PS X (.Raise (some e) none pos) (rs G W (sRaise cn)) := by
  refine PS_imp (ps_raise hc tk he) fun D σ H hq => ?_
  obtain ⟨P, F, Γ, env, h⟩ := hq
  exact ht σ H _ fun cls hcls => h σ F H cls none (Ext.refl _ _) env ⟨hcls, rfl, rfl⟩

/-! ### for, while -/
theorem drop_at {α : Type} {l : List α} {i : Nat} (h : i < l.length) : l.drop i = l[i] :: l.drop (i + 1) := List.drop_eq_getElem_cons h
theorem yok_env {y : Bool} {d : DP.D} {x : V} {H' : Hp} (hF : Same F F1) (env : EnvOk G P F1 H σ Γ) (hy : YOk G F y d x H H') : EnvOk G P F1 H' σ Γ ∧ XOk G F1 H' y d x := by
  rcases hy with ⟨rfl, r⟩ | ⟨hy, T, vs, ds, rfl, hT, rfl, rfl, r⟩
  · exact ⟨env, .inl (r.mono hF)⟩
  · exact ⟨env.new hT, .inr ⟨hy, T, vs, ds, rfl, upd_same, rfl, r.mono hF⟩⟩
theorem ds_for {wi : TI} {g : TG} {tgD : Tg} {it : DP.It} {y : Bool} (hp : PassesOwn (model X.prog X.w) X.A X.env X.xe) (hc : X.calm = true) (hi : PI X tg iter wi) (ti : TrI G W y wi it) (hg : PG X tg g) (tr : TrG G y g tgD) (hb : PSs X body (rs G W sb))
    (hs : ∀ x, foldedSetIterable iter X.env x = pure x := by intro _; rfl) : PS X (.For tg iter body [] pos) (rs G W (sFor it tgD sb)) := by
  refine PS_imp (ps_for hp hc hi hg hb hs) fun D σ H hq => ?_
  obtain ⟨P, F, Γ, env, h⟩ := hq
  have h : SPost G W P F D ((it Γ).toSB fun xs Γ1 => forLoop tgD sb xs Γ1) := h
  refine ti σ H _ ⟨P, F, Γ, env, ?_⟩
  cases hit : it Γ with
  | exc c fs Γ1 => rw [hit] at h; exact fun F' H' cls d e' env' ex => h σ F' H' cls d e' env' ex
  | stuck => rw [hit] at h; exact h.elim
  | ok ds Γ1 =>
    rw [hit] at h
    intro J F1 H1 e1 env1 jok
    have h : SPost G W P F1 D (forLoop tgD sb ds Γ1) := SPost.ext e1 h
    refine ⟨fun i m σ' H' => m = ds.length - i ∧ i ≤ ds.length ∧ ∃ F' Γ', Ext P F1 F' ∧ EnvOk G P F' H' σ' Γ' ∧ SPost G W P F' D (forLoop tgD sb (ds.drop i) Γ'), ⟨ds.length, by simp, Nat.zero_le _, F1, Γ1, Ext.refl _ _, env1, h⟩, ?_⟩
    rintro i m σ' H' ⟨rfl, hil, F', Γ', e', env', h'⟩
    by_cases hlt : i < ds.length
    · refine .inr ⟨jok.go i H' (e'.sub.trans env'.fh) hlt, fun σ2 H2 => ∃ F2 Γ2, Ext P F1 F2 ∧ EnvOk G P F2 H2 σ2 Γ2 ∧ SPost G W P F2 D (forLoop tgD sb (ds.drop (i + 1)) Γ2), fun σ2 H2 hN => ⟨ds.length - (i + 1), by omega, rfl, hlt, hN⟩, fun x H2 hy => ?_⟩
      have hd : ds[i]? = some ds[i] := List.getElem?_eq_getElem hlt
      obtain ⟨env2, hx⟩ := yok_env e'.sub env' (jok.yld i H' ds[i] x H2 (e'.sub.trans env'.fh) hd hy)
      rw [drop_at hlt] at h'
      unfold forLoop at h'
      cases ht : tgD ds[i] Γ' with
      | none => rw [ht] at h'; exact h'.elim
      | some Γ3 =>
        rw [ht] at h'
        refine tr P F' H2 σ' Γ' Γ3 ds[i] x _ env2 hx ht fun σ3 env3 => ⟨P, F', Γ3, env3, ?_⟩
        dsimp only at h'
        cases hb' : sb Γ3 with
        | next Γ4 => rw [hb'] at h'; exact fun σ4 F4 H4 e4 env4 => ⟨F4, Γ4, e'.trans e4, env4, SPost.ext e4 h'⟩
        | cont Γ4 => rw [hb'] at h'; exact fun σ4 F4 H4 e4 env4 => ⟨F4, Γ4, e'.trans e4, env4, SPost.ext e4 h'⟩
        | brk Γ4 => rw [hb'] at h'; exact h'
        | ret d => rw [hb'] at h'; exact h'
        | exc c fs Γ4 => rw [hb'] at h'; exact h'
        | stuck => rw [hb'] at h'; exact h'.elim
    · have hie : i = ds.length := by omega
      subst hie
      rw [List.drop_length] at h'
      exact .inl ⟨jok.stop H' (e'.sub.trans env'.fh), h' σ' F' H' (Ext.refl _ _) env'⟩
theorem ds_while {tc : T} {n : Nat} (hp : PassesOwn (model X.prog X.w) X.A X.env X.xe) (hc : PT X c (rdT G W tc)) (hb : PSs X body (rs G W sb)) : PS X (.While c body [] pos) (rs G W (sWhile n tc sb)) := by
  refine PS_imp (ps_while hp hc hb) fun D σ H hq => ?_
  obtain ⟨P, F, Γ, env, h⟩ := hq
  have h : SPost G W P F D (whileLoop tc sb n Γ) := h
  refine ⟨fun m σ' H' => ∃ F' Γ', EnvOk G P F' H' σ' Γ' ∧ SPost G W P F' D (whileLoop tc sb m Γ'), ⟨n, F, Γ, env, h⟩, ?_⟩
  rintro m σ' H' ⟨F', Γ', env', h'⟩
  cases m with
  | zero => exact h'.elim
  | succ m =>
    unfold whileLoop at h'
    refine rdT_s env' h' fun k Γ1 F1 H1 e1 env1 h1 => ?_
    cases k with
    | false =>
      show D.nx σ' H1
      exact h1 σ' F1 H1 (Ext.refl _ _) env1
    | true =>
      refine ⟨fun σ2 H2 => ∃ F2 Γ2, EnvOk G P F2 H2 σ2 Γ2 ∧ SPost G W P F2 D (whileLoop tc sb m Γ2), fun σ2 H2 hN => ⟨m, Nat.lt_succ_self _, hN⟩, P, F1, Γ1, env1, ?_⟩
      have h1 : SPost G W P F1 D (match sb Γ1 with | .next Γ2 => whileLoop tc sb m Γ2 | .cont Γ2 => whileLoop tc sb m Γ2 | .brk Γ2 => .next Γ2 | .ret d => .ret d | .exc c fs Γ2 => .exc c fs Γ2 | .stuck => .stuck) := h1
      cases hb' : sb Γ1 with
      | next Γ4 => rw [hb'] at h1; exact fun σ4 F4 H4 e4 env4 => ⟨F4, Γ4, env4, SPost.ext e4 h1⟩
      | cont Γ4 => rw [hb'] at h1; exact fun σ4 F4 H4 e4 env4 => ⟨F4, Γ4, env4, SPost.ext e4 h1⟩
      | brk Γ4 => rw [hb'] at h1; exact h1
      | ret d => rw [hb'] at h1; exact h1
      | exc c fs Γ4 => rw [hb'] at h1; exact h1
      | stuck => rw [hb'] at h1; exact h1.elim
end
end DP

/-! DpLc: comprehensions. -/
namespace DP
open PySem PySem.Spec
    PyProof.Rows L2

/-- a target that writes to none but the slots vs -/
def GLoc (g : TG) (vs : List Nat) : Prop := ∀ (x : V) (σ : L2.St) (H : Hp) (Q : L2.St → Hp → Prop), g x σ H (fun σ' H' => L2.wipe σ' vs = L2.wipe σ vs → Q σ' H') → g x σ H Q
def GLocs (t : TGs) (vs : List Nat) : Prop := ∀ (xs : List V) (σ : L2.St) (H : Hp) (Q : L2.St → Hp → Prop), t xs σ H (fun σ' H' => L2.wipe σ' vs = L2.wipe σ vs → Q σ' H') → t xs σ H Q
theorem wipe_set_in (σ : L2.St) (i : Nat) (v : Option V) : ∀ vs : List Nat, i ∈ vs → L2.wipe (σ.set i v) vs = L2.wipe σ vs
  | [], h => by simp at h
  | j :: vs, h => by
    show (L2.wipe (σ.set i v) vs).set j none = (L2.wipe σ vs).set j none
    by_cases hm : i ∈ vs
    · rw [wipe_set_in σ i v vs hm]
    · have hj : i = j := by simpa [hm] using h
      subst hj
      have : ∀ ws : List Nat, i ∉ ws → L2.wipe (σ.set i v) ws = (L2.wipe σ ws).set i v := by
        intro ws
        induction ws with
        | nil => intro _; rfl
        | cons w ws ih =>
          intro hw
          have h1 : i ≠ w := fun z => hw (by simp [z])
          have h2 : i ∉ ws := fun z => hw (by simp [z])
          show (L2.wipe (σ.set i v) ws).set w none = ((L2.wipe σ ws).set w none).set i v
          rw [ih h2, List.set_comm _ _ h1]
      rw [this vs hm, List.set_set]
theorem gl_name {vs : List Nat} {i : Nat} (h : i ∈ vs) : GLoc (gName i) vs := fun x σ H Q hq => hq (wipe_set_in σ i _ vs h)
theorem gls_nil {vs : List Nat} : GLocs gNil vs := fun xs σ H Q hq => ⟨hq.1, hq.2 rfl⟩
theorem gls_cons {vs : List Nat} {i : Nat} {t : TGs} (h : i ∈ vs) (ht : GLocs t vs) : GLocs (gCons (gName i) t) vs := fun xs σ H Q hq => by
  obtain ⟨z, r, hz, hq⟩ := hq
  refine ⟨z, r, hz, ?_⟩
  refine ht r _ H Q ?_
  rwa [wipe_set_in σ i _ vs h]
theorem gl_tup {vs : List Nat} {K : PySem.W.Frag} {n : Nat} {t : TGs} (ht : GLocs t vs) : GLoc (gTup K n t) vs := fun x σ H Q hq => by
  obtain ⟨a1, xs, a3, a4, a5, a6⟩ := hq
  exact ⟨a1, xs, a3, a4, a5, ht xs σ H Q a6⟩

section
variable {G : Gx} {P P2 F F1 H : Hp} {σ : L2.St} {Γ : Env}
theorem EnvOk.weakP (e : Same P P2) (env : EnvOk G P2 F H σ Γ) : EnvOk G P F H σ Γ where
  pf := e.trans env.pf
  fh := env.fh
  len := env.len
  slot := fun i s hs => by
    have h := env.slot i s hs
    cases s with
    | ow d =>
      obtain ⟨ad, h1, h2, h3⟩ := h
      refine ⟨ad, h1, ?_, h3⟩
      cases hp : P ad with
      | none => rfl
      | some u => rw [e _ _ hp] at h2; cases h2
    | no => exact h
    | sh d => exact h
    | ex c fs => exact h
  dis := env.dis
theorem Ext.weakP (e : Same P P2) (x : Ext P2 F F1) : Ext P F F1 := ⟨x.sub, fun ad o h => by
  rcases x.new ad o h with h | h
  · exact .inl h
  · refine .inr ?_
    cases hp : P ad with
    | none => rfl
    | some u => rw [e _ _ hp] at h; cases h⟩
open Classical in
noncomputable def pMax (H : Hp) (σ : L2.St) (Γ : Env) : Hp := fun ad => if Owned σ Γ ad then none else H ad
theorem pMax_sub (env : EnvOk G P F H σ Γ) : Same P (pMax H σ Γ) := fun ad o h => by
  have hn : ¬ Owned σ Γ ad := fun z => by rw [(env.owned z).1] at h; cases h
  unfold pMax
  rw [if_neg hn]
  exact env.pf _ _ h
theorem EnvOk.max (env : EnvOk G P F H σ Γ) : EnvOk G (pMax H σ Γ) F H σ Γ where
  pf := fun ad o h => by
    unfold pMax at h
    split at h
    · cases h
    · exact h
  fh := env.fh
  len := env.len
  slot := fun i s hs => by
    have h := env.slot i s hs
    cases s with
    | ow d =>
      obtain ⟨ad, h1, h2, h3⟩ := h
      exact ⟨ad, h1, if_pos ⟨i, d, hs, h1⟩, h3⟩
    | no => exact h
    | sh d => exact h
    | ex c fs => exact h
  dis := env.dis
theorem EnvOk.poke {ad : Addr} {u : HO} (env : EnvOk G P F H σ Γ) (hP : P ad = none) (hF : F ad = none) (hO : ¬ Owned σ Γ ad) : EnvOk G P F (upd H ad u) σ Γ where
  pf := fun b o e => by rw [upd_ne (ne_of_none e hP)]; exact env.pf b o e
  fh := fun b o e => by rw [upd_ne (ne_of_none e hF)]; exact env.fh b o e
  len := env.len
  slot := fun i s hs => (env.slot i s hs).mono (Same.refl _) fun b d hd hv => by
    subst hd
    have hne : b ≠ ad := fun z => hO ⟨i, d, hs, by rw [← z]; exact hv⟩
    obtain ⟨c, h1, _, h3, _⟩ := env.slot i _ hs
    rw [hv] at h1
    cases h1
    exact ⟨h3, upd_ne hne⟩
  dis := env.dis
theorem EnvOk.wipe (env : EnvOk G P F H σ Γ) : ∀ vs : List Nat, EnvOk G P F H (L2.wipe σ vs) (DP.wipe Γ vs)
  | [] => env
  | v :: vs => (EnvOk.wipe env vs).setNo v
theorem EnvOk.unwipe {vs : List Nat} (env : EnvOk G P F H (L2.wipe σ vs) Γ) : EnvOk G P F H σ Γ where
  pf := env.pf
  fh := env.fh
  len := by rw [env.len, L2.wipe_length]
  slot := fun i s hs => by
    have h := env.slot i s hs
    cases s with
    | ow d =>
      obtain ⟨ad, h1, h2⟩ := h
      exact ⟨ad, (wipe_some h1).1 |> fun z => z, h2⟩
    | no => trivial
    | sh d =>
      obtain ⟨x, h1, h2⟩ := h
      exact ⟨x, (wipe_some h1).1, h2⟩
    | ex c fs =>
      obtain ⟨x, cls, h1, h2, h3⟩ := h
      exact ⟨x, cls, h1, (wipe_some h2).1, h3⟩
  dis := fun i j ad d e h1 h2 h3 h4 => by
    obtain ⟨x, k1, _⟩ := env.slot i _ h1
    obtain ⟨y, k2, _⟩ := env.slot j _ h2
    have z1 := (wipe_some k1).1
    have z2 := (wipe_some k2).1
    rw [h3] at z1
    rw [h4] at z2
    cases z1
    cases z2
    exact env.dis i j ad d e h1 h2 k1 k2
theorem Owned.wipe {vs : List Nat} {ad : Addr} (env : EnvOk G P F H (L2.wipe σ vs) Γ) (h : Owned σ Γ ad) : Owned (L2.wipe σ vs) Γ ad := by
  obtain ⟨i, d, h1, h2⟩ := h
  obtain ⟨x, k1, _⟩ := env.slot i _ h1
  have z1 := (wipe_some k1).1
  rw [h2] at z1
  cases z1
  exact ⟨i, d, h1, k1⟩
/-- a shared part that comes later holds nothing that P holds -/
theorem Ext.keepNone {ad : Addr} {u : HO} (x : Ext P F F1) (hF : F ad = none) (hP : P ad = some u) : F1 ad = none := by
  cases h : F1 ad with
  | none => rfl
  | some o =>
    rcases x.new ad o h with k | k
    · rw [hF] at k; cases k
    · rw [hP] at k; cases k
theorem EnvOk.notOwned {ad : Addr} {u : HO} (env : EnvOk G P F H σ Γ) (hP : P ad = some u) : ¬ Owned σ Γ ad := fun z => by
  rw [(env.owned z).1] at hP; cases hP
end

section
variable {G : Gx} {W : WX} {X : Cx} {elt tg iter : Expr} {ifs : List Expr} {scope : Scope} {own : List (Str × Nat)} {pos py spos : Pos}
def W0 : WX := fun _ _ _ _ => False
structure LcI (G : Gx) (P F1 : Hp) (σw : L2.St) (vs : List Nat) (tgD : Tg) (dt : DP.T) (de : DP.E) (res : List DP.D × Env) (ds : List DP.D) (Dd : Addr) (i : Nat) (H : Hp) (F' : Hp) (Γ0 : Env) (acc : List DP.D) (ys : List V) : Prop where
  ext : Ext P F1 F'
  env : EnvOk G P F' H σw Γ0
  fD : F' Dd = none
  oD : ¬ Owned σw Γ0 Dd
  pD : P Dd = none
  hD : H Dd = some (.lst ys)
  rep : Reps G F' acc ys
  run : lcLoop vs tgD dt de (ds.drop i) Γ0 acc = some res
theorem lc_tr {wi : TI} {g : TG} {tgD : Tg} {it : DP.It} {y : Bool} {dt : DP.T} {de : DP.E} {vs : List Nat} (ti : TrI G W y wi it) (tr : TrG G y g tgD) (gl : GLoc g vs) (σ : L2.St) (H : Hp) (Q : VK) (hq : rd G W (eLc vs it tgD dt de) σ H Q) :
    tLc wi g (rdT G W0 dt) (rd G W0 de) vs σ H Q := by
  obtain ⟨P, F, Γ, env, h⟩ := hq
  unfold eLc at h
  refine ti σ H _ ⟨P, F, Γ, env, ?_⟩
  cases hit : it Γ with
  | exc c fs Γ1 => rw [hit] at h; exact h
  | stuck => rw [hit] at h; exact h.elim
  | ok ds Γ1 =>
    rw [hit] at h
    have h : (match (match lcLoop vs tgD dt de ds (DP.wipe Γ1 vs) [] with | some (es, Γ2) => DP.R.ok (Opd.fresh (.lst es)) Γ2 | none => .stuck) with
      | .ok o Γ' => Go G P F σ Γ' o Q | .exc c fs Γ' => GoX G W P F σ Γ' c fs | .stuck => False) := h
    intro J F1 H1 e1 env1 jok Dd hDn
    cases hl : lcLoop vs tgD dt de ds (DP.wipe Γ1 vs) [] with
    | none => rw [hl] at h; exact h.elim
    | some res =>
      rw [hl] at h
      obtain ⟨es, Γ2⟩ := res
      have hgo : Go G P F σ Γ2 (.fresh (.lst es)) Q := h
      have env2 := env1.wipe vs
      refine ⟨fun i m H' => m = ds.length - i ∧ i ≤ ds.length ∧ ∃ F' Γ0 acc ys, LcI G P F1 (L2.wipe σ vs) vs tgD dt de (es, Γ2) ds Dd i H' F' Γ0 acc ys, ⟨ds.length, by simp, Nat.zero_le _, F1, DP.wipe Γ1 vs, [], [], Ext.refl _ _, env2.new hDn, (env2.fresh_none hDn).1, ?_, (env2.fresh_none hDn).2, upd_same, rfl, hl⟩, ?_⟩
      · exact fun ⟨i, d, k1, k2⟩ => env2.notOwn hDn i d k1 k2
      · rintro i m H' ⟨rfl, hil, F', Γ', acc, ys, L⟩
        by_cases hlt : i < ds.length
        · refine .inr ⟨jok.go i H' (L.ext.sub.trans L.env.fh) hlt, fun H2 => ∃ F2 Γ2' acc2 ys2, LcI G P F1 (L2.wipe σ vs) vs tgD dt de (es, Γ2) ds Dd (i + 1) H2 F2 Γ2' acc2 ys2, fun H2 hN => ⟨ds.length - (i + 1), by omega, rfl, hlt, hN⟩, fun x H2 hy => ?_⟩
          have hd : ds[i]? = some ds[i] := List.getElem?_eq_getElem hlt
          have hrun := L.run
          rw [drop_at hlt] at hrun
          unfold lcLoop at hrun
          have hps := pMax_sub L.env
          have hpD : pMax H' (L2.wipe σ vs) Γ' Dd = some (.lst ys) := by
            unfold pMax
            rw [if_neg L.oD]
            exact L.hD
          obtain ⟨env3, hx⟩ := yok_env L.ext.sub L.env.max (jok.yld i H' ds[i] x H2 (L.ext.sub.trans L.env.fh) hd hy)
          cases ht : tgD ds[i] Γ' with
          | none => rw [ht] at hrun; cases hrun
          | some Γ3 =>
            rw [ht] at hrun
            refine gl x _ H2 _ (tr _ F' H2 _ Γ' Γ3 ds[i] x _ env3 hx ht fun σ3 env4 hw => ⟨hw.trans ?_, ?_⟩)
            · have : ∀ (σ : L2.St) (ws : List Nat), L2.wipe (L2.wipe σ ws) ws = L2.wipe σ ws := by
                intro σ ws
                induction ws with
                | nil => rfl
                | cons w ws ih =>
                  show (L2.wipe ((L2.wipe σ ws).set w none) ws).set w none = (L2.wipe σ ws).set w none
                  by_cases hm : w ∈ ws
                  · rw [wipe_set_in _ _ _ _ hm, ih]
                  · have : ∀ zs : List Nat, w ∉ zs → L2.wipe ((L2.wipe σ ws).set w none) zs = (L2.wipe (L2.wipe σ ws) zs).set w none := by
                      intro zs
                      induction zs with
                      | nil => intro _; rfl
                      | cons z zs ihz =>
                        intro hz
                        have h1 : w ≠ z := fun q => hz (by simp [q])
                        have h2 : w ∉ zs := fun q => hz (by simp [q])
                        show (L2.wipe ((L2.wipe σ ws).set w none) zs).set z none = ((L2.wipe (L2.wipe σ ws) zs).set z none).set w none
                        rw [ihz h2, List.set_comm _ _ h1]
                    rw [this ws hm, ih, List.set_set]
              exact this σ vs
            · have hw' : L2.wipe σ3 vs = L2.wipe σ vs := hw.trans (by
                have : ∀ (σ : L2.St) (ws : List Nat), L2.wipe (L2.wipe σ ws) ws = L2.wipe σ ws := by
                  intro σ ws
                  induction ws with
                  | nil => rfl
                  | cons w ws ih =>
                    show (L2.wipe ((L2.wipe σ ws).set w none) ws).set w none = (L2.wipe σ ws).set w none
                    by_cases hm : w ∈ ws
                    · rw [wipe_set_in _ _ _ _ hm, ih]
                    · have : ∀ zs : List Nat, w ∉ zs → L2.wipe ((L2.wipe σ ws).set w none) zs = (L2.wipe (L2.wipe σ ws) zs).set w none := by
                        intro zs
                        induction zs with
                        | nil => intro _; rfl
                        | cons z zs ihz =>
                          intro hz
                          have h1 : w ≠ z := fun q => hz (by simp [q])
                          have h2 : w ∉ zs := fun q => hz (by simp [q])
                          show (L2.wipe ((L2.wipe σ ws).set w none) zs).set z none = ((L2.wipe (L2.wipe σ ws) zs).set z none).set w none
                          rw [ihz h2, List.set_comm _ _ h1]
                      rw [this ws hm, ih, List.set_set]
                exact this σ vs)
              refine ⟨_, F', Γ3, env4, ?_⟩
              dsimp only at hrun
              cases hc : dt Γ3 with
              | exc c fs Γ4 => rw [hc] at hrun; cases hrun
              | stuck => rw [hc] at hrun; cases hrun
              | ok k Γ4 =>
                rw [hc] at hrun
                intro F4 H4 e4 env5
                have fD4 := e4.keepNone L.fD hpD
                cases k with
                | false =>
                  have hrun : lcLoop vs tgD dt de (ds.drop (i + 1)) (DP.wipe Γ4 vs) acc = some (es, Γ2) := hrun
                  simp only [Bool.false_eq_true,
                      if_false]
                  have env6 := env5.wipe vs
                  rw [hw'] at env6
                  exact ⟨F4, DP.wipe Γ4 vs, acc, ys, L.ext.trans (Ext.weakP hps e4), EnvOk.weakP hps env6, fD4, env6.notOwned hpD, L.pD, env5.pf _ _ hpD, L.rep.mono e4.sub, hrun⟩
                | true =>
                  simp only [if_true]
                  refine ⟨_, F4, Γ4, env5, ?_⟩
                  dsimp only at hrun
                  cases he : de Γ4 with
                  | exc c fs Γ5 => rw [he] at hrun; cases hrun
                  | stuck => rw [he] at hrun; cases hrun
                  | ok o Γ5 =>
                    rw [he] at hrun
                    intro v F5 H5 e5 env6 ho
                    dsimp only at hrun
                    cases hs : o.str with
                    | none => rw [hs] at hrun; cases hrun
                    | some d =>
                      rw [hs] at hrun
                      dsimp only at hrun
                      split at hrun
                      case isFalse => cases hrun
                      case isTrue hlen =>
                      obtain ⟨F6, e6, env7, r7⟩ := OpdOk.strong env6 ho hs
                      have fD6 := e6.keepNone (e5.keepNone fD4 hpD) hpD
                      have env8 := env7.wipe vs
                      rw [hw'] at env8
                      have rl := L.rep.length
                      refine ⟨ys, env6.pf _ _ hpD, by rw [rl]; exact line_lt hlen, F6, DP.wipe Γ5 vs, acc ++ [d], ys ++ [v], ?_, (EnvOk.weakP hps env8).poke L.pD fD6 (env8.notOwned hpD), fD6, env8.notOwned hpD, L.pD, upd_same, ?_, hrun⟩
                      · exact ((L.ext.trans (Ext.weakP hps e4)).trans (Ext.weakP hps e5)).trans (Ext.weakP hps e6)
                      · exact (((L.rep.mono e4.sub).mono e5.sub).mono e6.sub).append (Reps.one r7)
        · have hie : i = ds.length := by omega
          subst hie
          have hrun := L.run
          rw [List.drop_length] at hrun
          have hrun : some (acc, Γ') = some (es, Γ2) := hrun
          cases hrun
          refine .inl ⟨jok.stop H' (L.ext.sub.trans L.env.fh), hgo (.ref Dd) F' H' (e1.trans L.ext) L.env.unwipe ⟨Dd, rfl, L.pD, L.fD, ⟨ys, L.hD, L.rep⟩, fun j e k1 k2 => L.oD (Owned.wipe L.env ⟨j, e, k1, k2⟩)⟩⟩
theorem de_lc {wi : TI} {g : TG} {tgD : Tg} {it : DP.It} {y : Bool} {dt : DP.T} {de : DP.E} {vs : List Nat} (hc : X.calm = true) (hN : X.N.Nodup) (hi : PI X tg iter wi) (ti : TrI G W y wi it) (ok : BlkOk X.N X.env.scope scope own)
    (hg : ∀ (s : Shared) (H : Hp) (C : Addr) (cl : List (Str × Addr)) (fp : List Addr), PG (X.blk s H scope (compEnvC scope cl C X.env) fp) tg g) (tr : TrG G y g tgD) (gl : GLoc g vs)
    (ht : ∀ (s : Shared) (H : Hp) (C : Addr) (cl : List (Str × Addr)) (fp : List Addr), PTs (X.blk s H scope (compEnvC scope cl C X.env) fp) ifs (rdT G W0 dt))
    (he : ∀ (s : Shared) (H : Hp) (C : Addr) (cl : List (Str × Addr)) (fp : List Addr), PE (X.blk s H scope (compEnvC scope cl C X.env) fp) elt (rd G W0 de))
    (hs : ∀ x, foldedSetIterable iter X.env x = pure x := by intro _; rfl) (hvs : (own.map fun z => z.2) = vs := by rfl) :
    PE X (.ListComp elt [⟨tg, iter, ifs, 0⟩] scope pos) (rd G W (eLc vs it tgD dt de)) := by
  subst hvs
  exact PE_imp (pe_lc hc hN hi ok hg ht he hs) (lc_tr ti tr gl)
theorem ds_setLc {x : Str} {wi : TI} {g : TG} {tgD : Tg} {it : DP.It} {y : Bool} {dt : DP.T} {de : DP.E} {vs : List Nat} (i : Nat) (hc : X.calm = true) (hN : X.N.Nodup) (hy : X.N[i]? = some x) (hyl : X.env.scope.names.lookup x = some .local)
    (hsw : swapsWith (.ListComp elt [⟨tg, iter, ifs, 0⟩] scope pos) (some (.Name x py)) spos.line X.env = pure true) (hi : PI X tg iter wi) (ti : TrI G W y wi it) (ok : BlkOk X.N X.env.scope scope own)
    (hg : ∀ (s : Shared) (H : Hp) (C : Addr) (cl : List (Str × Addr)) (fp : List Addr), PG (X.blk s H scope (compEnvC scope cl C X.env) fp) tg g) (tr : TrG G y g tgD) (gl : GLoc g vs)
    (ht : ∀ (s : Shared) (H : Hp) (C : Addr) (cl : List (Str × Addr)) (fp : List Addr), PTs (X.blk s H scope (compEnvC scope cl C X.env) fp) ifs (rdT G W0 dt))
    (he : ∀ (s : Shared) (H : Hp) (C : Addr) (cl : List (Str × Addr)) (fp : List Addr), PE (X.blk s H scope (compEnvC scope cl C X.env) fp) elt (rd G W0 de))
    (hs : ∀ x, foldedSetIterable iter X.env x = pure x := by intro _; rfl) (hvs : (own.map fun z => z.2) = vs := by rfl) :
    PS X (.Assign [.Name x py] (.ListComp elt [⟨tg, iter, ifs, 0⟩] scope pos) spos) (rs G W (sSet i (eLc vs it tgD dt de))) := by
  subst hvs
  exact PS_imp (ps_setLc hc hN hy hyl hsw hi ok hg ht he hs) fun D σ H hq => lc_tr ti tr gl σ H _ (set_tr i D σ H hq)
theorem dts_nil : PTs X [] (rdT G W tYes) := ⟨fun pins s σ H Q I hq => pts_nil.run pins s σ H Q I (by
  obtain ⟨P, F, Γ, env, h⟩ := hq
  exact h F H (Ext.refl _ _) env)⟩
theorem dts_one {c : Expr} {t : DP.T} (h : PT X c (rdT G W t)) : PTs X [c] (rdT G W t) := pts_one h
end
end DP

/-! DpTry: try, except X as e; a def kept. -/
namespace DP
open PySem PySem.Spec
    PyProof.Rows L2

section
variable {G : Gx} {W : WX} {X : Cx} {body suite : List Stmt} {b₀ : Stmt} {np pos pos' p : Pos} {x n : Str} {c : Value}
/-- of the classes that the table names it is known whether c takes them -/
def SubOk (K : PySem.W.Frag) (mg : Str → Option Value) (c : Value) (sub : Str → Option Bool) : Prop := ∀ cn b cls, sub cn = some b → mg cn = some cls → PySem.W.exmOne K cls c = some b
def Gx.hold (G : Gx) (a : Addr) (cls : Value) : Gx := { G with χ := some (a, cls) }
theorem Rep.hold {a : Addr} {cls : Value} {F : Hp} : ∀ {d : D} {v : V}, Rep (G.hold a cls) F d v ↔ Rep G F d v
  | .non, _ => Iff.rfl
  | .bl _, _ => Iff.rfl
  | .int _, _ => Iff.rfl
  | .str _, _ => Iff.rfl
  | .tup ds, v => ⟨fun ⟨a, xs, h1, h2, h3⟩ => ⟨a, xs, h1, h2, (repsHold ds xs).mp h3⟩, fun ⟨a, xs, h1, h2, h3⟩ => ⟨a, xs, h1, h2, (repsHold ds xs).mpr h3⟩⟩
  | .lst ds, v => ⟨fun ⟨a, xs, h1, h2, h3⟩ => ⟨a, xs, h1, h2, (repsHold ds xs).mp h3⟩, fun ⟨a, xs, h1, h2, h3⟩ => ⟨a, xs, h1, h2, (repsHold ds xs).mpr h3⟩⟩
  | .scr ds, v => ⟨fun ⟨a, xs, h1, h2, h3⟩ => ⟨a, xs, h1, h2, (repsHold ds xs).mp h3⟩, fun ⟨a, xs, h1, h2, h3⟩ => ⟨a, xs, h1, h2, (repsHold ds xs).mpr h3⟩⟩
  | .dK _, _ => Iff.rfl
  | .dT _, _ => Iff.rfl
  | .ins _ _, _ => Iff.rfl
where repsHold {a : Addr} {cls : Value} {F : Hp} : ∀ (ds : List D) (vs : List V), Reps (G.hold a cls) F ds vs ↔ Reps G F ds vs
  | [], _ => Iff.rfl
  | d :: ds, vs => ⟨fun ⟨v, r, h1, h2, h3⟩ => ⟨v, r, h1, Rep.hold.mp h2, (repsHold ds r).mp h3⟩, fun ⟨v, r, h1, h2, h3⟩ => ⟨v, r, h1, Rep.hold.mpr h2, (repsHold ds r).mpr h3⟩⟩

section
variable {P F H : Hp} {σ : L2.St} {Γ : Env}
theorem EnvOk.hold {a : Addr} {cls : Value} (hχ : G.χ = none) (env : EnvOk G P F H σ Γ) : EnvOk (G.hold a cls) P F H σ Γ where
  pf := env.pf
  fh := env.fh
  len := env.len
  slot := fun i s hs => by
    have h := env.slot i s hs
    cases s with
    | ow d =>
      obtain ⟨ad, h1, h2, h3, h4⟩ := h
      refine ⟨ad, h1, h2, h3, ?_⟩
      cases d with
      | lst ds => obtain ⟨xs, k1, k2⟩ := h4; exact ⟨xs, k1, (Rep.hold.repsHold ds xs).mpr k2⟩
      | _ => exact h4.elim
    | no => exact h
    | sh d => obtain ⟨v, h1, h2⟩ := h; exact ⟨v, h1, Rep.hold.mpr h2⟩
    | ex c fs => obtain ⟨ad, z, h1, _⟩ := h; rw [hχ] at h1; cases h1
  dis := env.dis
theorem unSlot_get {i j : Nat} {s : Slot} (h : (unEx j Γ)[i]? = some s) : (∃ s', (Γ.set j .no)[i]? = some s' ∧ s = unSlot s') := by
  unfold unEx at h
  rw [List.getElem?_map] at h
  cases e : (Γ.set j .no)[i]? with
  | none =>
      rw [e] at h; cases h
  | some s' => rw [e] at h; cases h; exact ⟨s', rfl, rfl⟩
theorem unSlot_ow {s : Slot} {d : D} (h : unSlot s = .ow d) : s = .ow d := by
  cases s with
  | ow e => exact h
  | _ => cases h
theorem EnvOk.unHold {a : Addr} {cls : Value} {v : Option V} {j : Nat} (env : EnvOk (G.hold a cls) P F H σ Γ) : EnvOk G P F H (σ.set j v) (unEx j Γ) := by
  have e2 := env.setNo (v := v) j
  refine ⟨e2.pf, e2.fh, ?_, fun i s hs => ?_, fun i k ad d e h1 h2 h3 h4 => ?_⟩
  · have := e2.len
    unfold unEx
    rw [List.length_map]
    exact this
  · obtain ⟨s', h1, rfl⟩ := unSlot_get hs
    have h := e2.slot i s' h1
    cases s' with
    | ow d =>
      obtain ⟨ad, h1, h2, h3, h4⟩ := h
      refine ⟨ad, h1, h2, h3, ?_⟩
      cases d with
      | lst ds => obtain ⟨xs, k1, k2⟩ := h4; exact ⟨xs, k1, (Rep.hold.repsHold ds xs).mp k2⟩
      | _ => exact h4.elim
    | no => trivial
    | sh d => obtain ⟨v, h1, h2⟩ := h; exact ⟨v, h1, Rep.hold.mp h2⟩
    | ex c fs => trivial
  · obtain ⟨s1, k1, z1⟩ := unSlot_get h1
    obtain ⟨s2, k2, z2⟩ := unSlot_get h2
    exact e2.dis i k ad d e (by rw [k1, unSlot_ow z1.symm]) (by rw [k2, unSlot_ow z2.symm]) h3 h4
theorem EnvOk.setEx {a : Addr} {cls : Value} {cn : Str} {fs : List D} {i : Nat} (hχ : G.χ = none) (hm : G.mg cn = some cls) (env : EnvOk G P F H σ Γ) : EnvOk (G.hold a cls) P F H (σ.set i (some (.ref a))) (Γ.set i (.ex cn fs)) := by
  have e2 := (env.setNo (v := some (.ref a)) i).hold (a := a) (cls := cls) hχ
  refine ⟨e2.pf, e2.fh, ?_, fun k s hs => ?_, fun k l ad d e h1 h2 h3 h4 => ?_⟩
  · have := e2.len
    rw [List.length_set] at this ⊢
    exact this
  · by_cases hk : i = k
    · subst hk
      have hl : i < Γ.length := by
        have := (List.getElem?_eq_some_iff.mp hs).1
        rwa [List.length_set] at this
      rw [List.getElem?_set_self hl] at hs
      cases hs
      refine ⟨a, cls, rfl, ?_, hm⟩
      rw [List.getElem?_set_self (by rw [← env.len]; exact hl)]
    · rw [List.getElem?_set_ne hk] at hs
      exact e2.slot k s (by rw [List.getElem?_set_ne hk]; exact hs)
  · have hk : i ≠ k := fun z => by
      subst z
      have hl : i < Γ.length := by
        have := (List.getElem?_eq_some_iff.mp h1).1
        rwa [List.length_set] at this
      rw [List.getElem?_set_self hl] at h1
      cases h1
    have hl : i ≠ l := fun z => by
      subst z
      have hl : i < Γ.length := by
        have := (List.getElem?_eq_some_iff.mp h2).1
        rwa [List.length_set] at this
      rw [List.getElem?_set_self hl] at h2
      cases h2
    rw [List.getElem?_set_ne hk] at h1
    rw [List.getElem?_set_ne hl] at h2
    exact e2.dis k l ad d e (by rw [List.getElem?_set_ne hk]; exact h1) (by rw [List.getElem?_set_ne hl]; exact h2) h3 h4
end

theorem ds_try {sub : Str → Option Bool} {db ds : DP.S} (i : Nat) (hχ : G.χ = none) (ok : Ok G X) (hs : X.stack = X.env :: X.outer) (hf : X.env.frame = some X.env.locals) (hN : X.N.Nodup) (hi : X.N[i]? = some n) (hln : X.env.kindOf n = some .local) (hc : Names X x c) (tk : Takes X W)
    (hsub : SubOk X.K X.mg c sub)
    (hb : ∀ (W' : WX) (pn : List (Addr × Obj)) (xe : Value → Shared → Prop), Takes (X.tr pn xe) W' → PassesOwn (model X.prog X.w) X.A X.env xe → PSs (X.tr pn xe) body (rs G W' db))
    (hsu : ∀ (a : Addr) (oe : Obj) (cls : Value) (pn : List (Addr × Obj)), Zc cls none oe → (∃ vs, oe.data = .fields vs) → PSs (X.suite a ((a, oe) :: pn)) (b₀ :: suite) (rs (G.hold a cls) W0 ds)) :
    PS X (.Try body [.ExceptHandler (some (.Name x np)) (some n) (b₀ :: suite) pos'] [] [] pos) (rs G W (sTry sub i db ds)) := by
  refine PS_imp (ps_try_as (tb := fun W' => rs G W' db) (ts := fun a cls d D σ H => d = none ∧ rs (G.hold a cls) W0 ds D σ H) (Wout := W) (c := c) (i := i) hs hf hN hi hln hc tk hb (fun a oe cls d pn hz hfl => ⟨fun pins s σ H D I h => ?_⟩)) fun D σ H hq => ?_
  · obtain ⟨hd, h⟩ := h
    subst hd
    exact (hsu a oe cls pn hz hfl).run pins s σ H D I h
  · obtain ⟨P, F, Γ, env, h⟩ := hq
    have h : SPost G W P F D (sTry sub i db ds Γ) := h
    unfold sTry at h
    refine ⟨P, F, Γ, env, ?_⟩
    cases hb' : db Γ with
    | next Γ1 => rw [hb'] at h; exact h
    | ret d => rw [hb'] at h; exact h
    | brk Γ1 => rw [hb'] at h; exact h
    | cont Γ1 => rw [hb'] at h; exact h
    | stuck => rw [hb'] at h; exact h
    | exc cn fs Γ1 =>
      rw [hb'] at h
      dsimp only at h
      intro σ1 F1 H1 cls d e1 env1 ex
      obtain ⟨x1, x2, x3⟩ := ex
      cases hsb : sub cn with
      | none => rw [hsb] at h; exact h.elim
      | some k =>
        have hexm := hsub cn k cls hsb (by rw [← ok.mg]; exact x1)
        rw [hsb] at h
        cases k with
        | false => exact ⟨false, hexm, fun z => Bool.noConfusion z, fun _ => h σ1 F1 H1 cls d e1 env1 ⟨x1, x2, x3⟩⟩
        | true =>
          refine ⟨true, hexm, fun _ a ha => ⟨x3, P, F1, Γ1.set i (.ex cn fs), env1.setEx hχ x1, ?_⟩, fun z => Bool.noConfusion z⟩
          dsimp only at h
          cases hsu' : ds (Γ1.set i (.ex cn fs)) with
          | next Γ2 => rw [hsu'] at h; exact fun σ2 F2 H2 e2 env2 => h _ F2 H2 (e1.trans e2) env2.unHold
          | brk Γ2 => rw [hsu'] at h; exact fun σ2 F2 H2 e2 env2 => h _ F2 H2 (e1.trans e2) env2.unHold
          | cont Γ2 => rw [hsu'] at h; exact fun σ2 F2 H2 e2 env2 => h _ F2 H2 (e1.trans e2) env2.unHold
          | ret d => rw [hsu'] at h; exact fun v F2 H2 e2 s1 s2 r => h v F2 H2 (e1.trans e2) s1 s2 (Rep.hold.mp r)
          | exc c2 fs2 Γ2 => rw [hsu'] at h; exact h.elim
          | stuck => rw [hsu'] at h; exact h.elim
/-- isinstance(e, T), e what the suite holds -/
def KitsOk (K : PySem.W.Frag) (mg : Str → Option Value) (cv : Value) (sub : Str → Option Bool) : Prop := ∀ cn b, sub cn = some b → ∀ cls, mg cn = some cls → ∃ Dc, cls = .ref Dc ∧ ExcC K Dc ∧ PySem.W.kitOne K cls cv = some b
theorem de_isX {sub : Str → Option Bool} {a : Addr} {oe : Obj} {cls : Value} {pn : List (Addr × Obj)} {T : Str} {pT px : Pos} {cv : Addr} (i : Nat) (ok : Ok G X) (hz : Zc cls none oe) (hfl : ∃ vs, oe.data = .fields vs) (hk : KitsOk X.K X.mg (.ref cv) sub)
    (hg : Gl X "isinstance") (hm : X.mg "isinstance" = none) (hN : X.N[i]? = some x) (hv : Vis X.env.scope x) (hgT : Gl X T) (hmT : X.mg T = some (.ref cv))
    (hd : (x == ("__debug__" : Str)) = false := by decide) (hcd : (x == ("__classdict__" : Str)) = false := by decide) (hdT : (T == ("__debug__" : Str)) = false := by decide)
    (he : starEach ((.Name x px) :: [.Name T pT]) X.env = (false, eval (.Name x px) X.env) :: starEach [.Name T pT] X.env := by rfl) (he2 : starEach [.Name T pT] X.env = (false, eval (.Name T pT) X.env) :: starEach [] X.env := by rfl) (hpl : (backTo pos (starEach [.Name T pT] X.env)).any (·.1) = false := by rfl) :
    PE (X.suite a ((a, oe) :: pn)) (.Call (.Name "isinstance" p) [.Name x px, .Name T pT] [] pos) (rd (G.hold a cls) W (eIsX sub i)) := by
  refine ⟨fun pins s σ H Q I hq =>
      ?_⟩
  obtain ⟨P, F, Γ, env, h⟩ := hq
  unfold eIsX at h
  cases hs : Γ[i]? with
  | none => rw [hs] at h; exact h.elim
  | some sl =>
    rw [hs] at h
    cases sl with
    | ex c fs =>
      obtain ⟨a', cls', h1, h2, h3⟩ := env.slot i _ hs
      cases h1
      dsimp only at h
      cases hsb : sub c with
      | none => rw [hsb] at h; exact h.elim
      | some k =>
        rw [hsb] at h
        obtain ⟨Dc, rfl, xc, kit⟩ := hk c k hsb cls (by rw [← ok.mg]; exact h3)
        have hT : PE (X.suite a ((a, oe) :: pn)) (.Name T pT) (tC (.ref cv)) := pe_glob hgT hmT rfl hdT
        have hx : PE (X.suite a ((a, oe) :: pn)) (.Name x px) (tVar i) := pe_var hN hv hd hcd
        refine (pe_callB (call_isE xc hz hfl) hg hm (by decide +kernel) (pa_cons hx (pa_cons hT pa_nil he2) he) (by decide) (by decide) he hpl).run pins s σ H Q I ?_
        exact ⟨.ref a, h2, .ref cv, .ref cv, k, rfl, fun u hu => hu, kit, h (.bl k) F H (Ext.refl _ _) env rfl⟩
    | no => exact h.elim
    | sh d => exact h.elim
    | ow d => exact h.elim

/-! ### a def keeps its promise -/
end
end DP

/-! DpEnd: a def keeps its promise; the law's end. -/
namespace DP
open PySem PySem.Spec
    PyProof.Rows L2

theorem env_start {G : Gx} {F H : Hp} {ds : List D} {vs : List V} {N : List Str} {n : Nat} (hF : Same F H) (r : Reps G F ds vs) (hN : N.length = n) (hl : ds.length ≤ n) : EnvOk G H F H (L2.start N vs) (startEnv n ds) where
  pf := Same.refl _
  fh := hF
  len := by
    unfold startEnv L2.start
    simp only [List.length_append, List.length_map, List.length_replicate]
    rw [r.length, hN]
  slot := fun i s hs => by
    unfold startEnv at hs
    unfold L2.start
    by_cases hi : i < ds.length
    · rw [List.getElem?_append_left (by rw [List.length_map]; exact hi), List.getElem?_map] at hs
      rw [List.getElem?_append_left (by rw [List.length_map, r.length]; exact hi), List.getElem?_map]
      cases e : ds[i]? with
      | none => rw [e] at hs; cases hs
      | some d =>
        rw [e] at hs
        cases hs
        obtain ⟨v, hv, hr⟩ := r.get e
        exact ⟨v, by rw [hv]; rfl, hr⟩
    · rw [List.getElem?_append_right (by rw [List.length_map]; omega)] at hs
      have := List.mem_of_getElem? hs
      rw [List.mem_replicate] at this
      rw [this.2]
      trivial
  dis := fun i j ad d e h1 => by
    unfold startEnv at h1
    by_cases hi : i < ds.length
    · rw [List.getElem?_append_left (by rw [List.length_map]; exact hi), List.getElem?_map] at h1
      cases e : ds[i]? with
      | none => rw [e] at h1; cases h1
      | some d => rw [e] at h1; cases h1
    · rw [List.getElem?_append_right (by rw [List.length_map]; omega)] at h1
      have := List.mem_of_getElem? h1
      rw [List.mem_replicate] at this
      cases this.2

section
variable {P : Program} {w : World} {K : PySem.W.Frag}
    {mg : Str → Option Value} {base : Heap}
theorem okD {x qual : Str} {st : Stmt} {f : Addr} {fd : FuncData} {N ps : List Str} {k np n : Nat} {den : DP.S} (Fu : Fun K x qual st f fd) (S : FnScope N ps (defScope st)) (hN : N.length = n) (hp : ps.length = np) (hnp : np ≤ n)
    (hb : ∀ (cdv : Value) (A : Around) (outer : List PySem.Env) (s : Shared) (H : Hp) (E : XK), Room k (A.deeper (envOfC qual (defScope st) s.heap.objs.size f cdv)) →
      PSs (cxOf (L2.CX P w) P w K mg base N qual (defScope st) f cdv A outer s H E) (defBody st) (rs ⟨K, mg, none⟩ (fun cls d _ H => E cls d H) den)) :
    FnOk P w K mg base (L2.CX P w) (k + 1) f fd ps (spD ⟨K, mg, none⟩ (runDef np n den)) := by
  refine Fu.okX S (fun vs H Q E h => ?_) (fun cdv A outer s H vs Q E hr h => ⟨_, hb cdv A outer s H E hr, ?_⟩)
  · obtain ⟨F, ds, _, r, h⟩ := h
    unfold runDef at h
    by_cases hl : ds.length = np
    · rw [r.length, hl, hp]
    · rw [if_neg hl] at h
      exact h.elim
  · obtain ⟨F, ds, hF, r, h⟩ := h
    unfold runDef at h
    by_cases hl : ds.length = np
    · rw [if_pos hl] at h
      refine ⟨H, F, startEnv n ds, env_start hF r hN (by omega), ?_⟩
      cases hd : den (startEnv n ds) with
      | next Γ' => rw [hd] at h; exact fun σ' F' H' e' env' => h .non F' H' env'.pf env'.fh e' rfl
      | ret d => rw [hd] at h; exact fun v F' H' e' s1 s2 r' => h v F' H' s1 s2 e' r'
      | brk Γ' => rw [hd] at h; exact h.elim
      | cont Γ' => rw [hd] at h; exact h.elim
      | stuck => rw [hd] at h; exact h.elim
      | exc c fs Γ' => rw [hd] at h; exact fun σ' F' H' cls d e' env' ex => h F' H' cls d env'.pf env'.fh e' ex
    · rw [if_neg hl] at h
      exact h.elim
theorem rep_ints {G : Gx} {F : Hp} : ∀ ns : List Int, Reps G F (ns.map D.int) (ns.map V.int)
  | [] => rfl
  | z :: r => ⟨_, _, rfl, rfl, rep_ints r⟩
/-- the law called with a script -/
theorem law_sp {G : Gx} {fn : Fn} {H : Hp} {a : Addr} {ns : List Int} (hS : SqL G.K H a (ns.map V.int)) (h : fn [.scr (ns.map D.int)] = .ok (.bl true)) : spD G fn [.ref a] H (fun v _ => v = .bl true) fun _ _ _ => False := by
  refine ⟨H, [.scr (ns.map D.int)], Same.refl _, Reps.one ⟨a, _, rfl, hS, rep_ints ns⟩, ?_⟩
  rw [h]
  exact fun v F' H' _ _ _ r => r
theorem cx_no {P : Program} {w : World} {H : Hp} {s s' : Shared} {e : Value} (h : L2.CX P w [] H s (fun _ _ _ => False) e s') : False := by
  obtain ⟨a, B, H1, cls, d, h⟩ := h
  exact h.2.2.2.2.2.2.2
end
end DP
namespace DP
open PySem PySem.Spec
    PyProof.Rows L2
/-- a def that other defs call -/
structure Cal (P : Program) (w : World) (K : PySem.W.Frag) (mg : Str → Option Value) (base : Heap) (k : Nat) (x : Str) (ps : List Str) (fn : Fn) (f : Addr) (fd : FuncData) : Prop where
  ok : FnOk P w K mg base (L2.CX P w) k f fd ps (spD ⟨K, mg, none⟩ fn)
  m : mg x = some (.ref f)
  kp : PySem.W.keepIn
      K (.ref f) = true
  b : Binds K fd ps []
section
variable {X : Cx} {p1 p2 : Pos} {j : _}
theorem pe_m1 : PE X (.UnaryOp .USub (.Constant (.int 1) j p1) p2) (tC (.int (-1))) :=
  PE_imp (pe_un un_neg pe_int) fun σ H Q hq => ⟨1, rfl, hq⟩
end
section
variable {K : PySem.W.Frag} {mg : Str → Option Value}
theorem exm_sub {S : Addr} {t : Value} {b : Bool} (h1 : PySem.W.subIn K (.ref S) (.type "BaseException") = some true) (h2 : PySem.W.isClsIn K S = true) (h3 : PySem.W.typeIn K (.ref S) = some (.type "type")) (h4 : PySem.W.subIn K t (.ref S) = some b) : PySem.W.exmOne K t (.ref S) = some b := by
  have h2' : (PySem.W.clsIn K S).isSome = true :=
      h2
  unfold PySem.W.exmOne
  rw [h1]
  show (if ((PySem.W.clsIn K S).isSome && PySem.W.typeIn K (.ref S) == some (.type "type")) = true then PySem.W.subIn K t (.ref S) else none) = some b
  rw [h3, h2', h4]
  rfl
theorem kit_sub {S : Addr} {t : Value} {b : Bool} (h2 : PySem.W.isClsIn K S = true) (h3 : PySem.W.typeIn K (.ref S) = some (.type "type")) (h4 : PySem.W.subIn K t (.ref S) = some b) (h5 : (t == Value.ref S) = false) : PySem.W.kitOne K t (.ref S) = some b := by
  have h2' : (PySem.W.clsIn K S).isSome = true :=
      h2
  unfold PySem.W.kitOne PySem.W.kitCls
  rw [if_neg (by rw [h5]; decide)]
  show (if ((PySem.W.clsIn K S).isSome && PySem.W.typeIn K (.ref S) == some (.type "type")) = true then PySem.W.subIn K t (.ref S) else none) = some b
  rw [h3, h2', h4]
  rfl
/-- a table of one class -/
def only (x : Str) (b : Bool) : Str → Option Bool := fun c => if c = x then some b else none
theorem only_is {x c : Str} {b d : Bool} (h : only x b c = some d) : c = x ∧ d = b := by
  unfold only at h
  split at h
  · exact ⟨by assumption,
      (Option.some.inj h).symm⟩
  · cases h
theorem sub_only {x : Str} {b : Bool} {t c : Value} (hx : mg x = some t) (h : PySem.W.exmOne K t c = some b) : SubOk K mg c (only x b) := fun cn d cls h1 h2 => by
  obtain ⟨rfl, rfl⟩ := only_is h1
  rw [hx] at h2
  cases h2
  exact h
theorem kits_only {x : Str} {b : Bool} {Dc : Addr} {c : Value} (hx : mg x = some (.ref Dc)) (e : ExcC K Dc) (h : PySem.W.kitOne K (.ref Dc) c = some b) : KitsOk K mg c (only x b) := fun cn d h1 cls h2 => by
  obtain ⟨rfl, rfl⟩ := only_is h1
  rw [hx] at h2
  cases h2
  exact ⟨Dc, rfl, e, h⟩
end
end DP
namespace DP
open PySem PySem.Spec
    PyProof.Rows L2
def spL (K : PySem.W.Frag) (fn : Fn) : Sp := fun vs H Q _ => ∃ (a : Addr) (ns : List Int), vs = [V.ref a] ∧ SqL K H a (ns.map V.int) ∧ fn [.scr (ns.map D.int)] = .ok (.bl true) ∧ ∀ H', Q (.bl true) H'
theorem spL_imp {K : PySem.W.Frag} {mg : Str → Option Value} {fn : Fn} (vs : List V) (H : Hp) (Q : VK) (E : XK) (h : spL K fn vs H Q E) : spD ⟨K, mg, none⟩ fn vs H Q E := by
  obtain ⟨a, ns, rfl, hS, hf, hq⟩ := h
  refine ⟨H, [.scr (ns.map D.int)], Same.refl _, Reps.one ⟨a, _, rfl, hS, rep_ints ns⟩, ?_⟩
  rw [hf]
  exact fun v F' H' _ _ _ r => by rw [show v = .bl true from r]; exact hq H'
theorem walkD {l : PySem.W.OpenLaw} {n k : Nat} {q : Program} {loose : List Str} {XP : (Str → Option Value) → Heap → Prop} {YP : World → Heap → Prop} {d : DefRec} {K : Params → PySem.W.Frag} {fn : Fn}
    (hlaw : ∀ ns : List Int, ns.length ≤ n → (∀ z ∈ ns, Builtin.Int.intBits z ≤ 1048576) → fn [.scr (ns.map D.int)] = .ok (.bl true))
    (hn : l.most = some n) (hn2 : n ≤ sizeLine) (hdf : d.params.defaults = []) (hr : Room k callerA) (hY : ∀ (w : World) (h : Heap),
        YP w h → (K w.params).In h)
    (Fo : ∀ (w : World) (mg : Str → Option Value) (fa : Addr) (h : Heap), (K w.params).In h → h.Ns mainGlobals mg → mg d.name = some (.ref fa) →
      ∃ fd : FuncData, (∀ (s : Shared) (u : Value), BindsTo s fd ⟨[u], []⟩ [("script", u)]) ∧
        ∀ base : Heap, (K w.params).In base → base.Ns mainGlobals mg → FnOk l.prog w (K w.params) mg base (L2.CX l.prog w) k fa fd ["script"] (spD ⟨K w.params, mg, none⟩ fn)) :
    PySem.W.WalkO q loose XP YP l.row.toRowW d [] (fun f vs =>
        PySem.call f vs) :=
  L2.walk_ofB (n := n) (k := k) (x := "script") (CX := fun w => L2.CX l.prog w) (sp := fun w => spL (K w.params) fn) hn hn2 hdf hr hY
    (fun w mg fa h h1 h2 h3 => by
      obtain ⟨fd, h4, h5⟩ := Fo w mg fa h h1 h2 h3
      exact ⟨fd, h4, fun base h6 h7 => (h5 base h6 h7).imp fun vs H Q E h => spL_imp vs H Q E h⟩)
    (fun w H a ns h1 h2 h3 h4 => ⟨a, ns, rfl, h4, hlaw ns h1 h2, fun _ => rfl⟩) fun w H s e s' h => cx_no h
end DP

namespace DP
open PySem L2
def topK20 (i : Nat) : Stmt := PySem.Challenge.pw_kindsoftables_k20_colours_and_decreasing.main.body.getD i (.Pass ⟨0, 0, 0, 0⟩)
def subx_WrongSize : Str → Option Bool := only "WrongSize" true
def sub_TableError : Str → Option Bool := only "WrongSize" true
def sub_WrongKind : Str → Option Bool := only "WrongSize" false
def g_SIZES : DP.D := .tup [.int 1, .int 2, .int 3]
/-- size -/
def d_check_size : DP.S := (DP.sIf (DP.tE (DP.eBin DP.notInF (DP.eV 0) (DP.eC g_SIZES))) (DP.sRaise "WrongSize") DP.sNext)
def m_check_size : DP.Fn := DP.runDef 1 1 d_check_size
/-- perm count at value more -/
def d_inversions : DP.S := (DP.sSeq (DP.sSet 1 (DP.eC (.int 0)))
    (DP.sSeq (DP.sFor (DP.iEnum (DP.eV 0)) (DP.gT [2, 3]) (DP.sSet 1 (DP.eBin DP.addF (DP.eV 1) (DP.eCB DP.lenF (DP.aCons (DP.eLc [4] (DP.iE (DP.eSl DP.slF (DP.eV 0) (DP.pE (DP.eBin DP.addF (DP.eV 2) (DP.eC (.int 1)))) DP.pNo)) (DP.gN 4) (DP.tE (DP.eBin DP.ltF (DP.eV 4) (DP.eV 3))) (DP.eV 4)) DP.aNil)))))
    (DP.sRet (DP.eV 1))))
def m_inversions : DP.Fn := DP.runDef 1 5 d_inversions
/-- perm ranks at value longer to -/
def d_colours : DP.S := (DP.sSeq (DP.sSet 1 (DP.eLst DP.aNil))
    (DP.sSeq (DP.sFor (DP.iEnum (DP.eV 0)) (DP.gT [2, 3]) (DP.sSeq (DP.sSet 4 (DP.eLc [5] (DP.iR1 (DP.eV 2)) (DP.gN 5) (DP.tE (DP.eBin DP.gtF (DP.eBin DP.ixF (DP.eV 0) (DP.eV 5)) (DP.eV 3))) (DP.eBin DP.ixF (DP.eV 1) (DP.eV 5))))
    (DP.sDrop (DP.eMut DP.appendM 1 (DP.aCons (DP.eBin DP.addF (DP.eC (.int 1)) (DP.eBin DP.maxDF (DP.eV 4) (DP.eC (.int 0)))) DP.aNil)))))
    (DP.sRet (DP.eCB DP.tupleF (DP.aCons (DP.eV 1) DP.aNil)))))
def m_colours : DP.Fn := DP.runDef 1 6 d_colours
/-- perm -/
def d_longest_decreasing : DP.S := (DP.sRet (DP.eBin DP.maxDF (DP.eCall m_colours (DP.aCons (DP.eV 0) DP.aNil)) (DP.eC (.int 0))))
def m_longest_decreasing : DP.Fn := DP.runDef 1 1 d_longest_decreasing
/-- perm length ranks at places rank earlier to -/
def d_decreasing_places : DP.S := (DP.sSeq (DP.sSet 2 (DP.eCall m_colours (DP.aCons (DP.eV 0) DP.aNil)))
    (DP.sSeq (DP.sIf (DP.tE (DP.eBin DP.notInF (DP.eV 1) (DP.eV 2))) (DP.sRet (DP.eC .non)) DP.sNext)
    (DP.sSeq (DP.sSet 3 (DP.eMtT DP.indexM (DP.eV 2) (DP.aCons (DP.eV 1) DP.aNil)))
    (DP.sSeq (DP.sSet 4 (DP.eLst (DP.aCons (DP.eBin DP.addF (DP.eV 3) (DP.eC (.int 1))) DP.aNil)))
    (DP.sSeq (DP.sFor (DP.iRd (DP.eBin DP.subF (DP.eV 1) (DP.eC (.int 1))) (DP.eC (.int 0))) (DP.gN 5) (DP.sSeq (DP.sSet 6 (DP.eLc [7] (DP.iR1 (DP.eV 3)) (DP.gN 7) (DP.tAnd (DP.tE (DP.eBin DP.eqF (DP.eBin DP.ixF (DP.eV 2) (DP.eV 7)) (DP.eV 5))) (DP.tE (DP.eBin DP.gtF (DP.eBin DP.ixF (DP.eV 0) (DP.eV 7)) (DP.eBin DP.ixF (DP.eV 0) (DP.eV 3))))) (DP.eV 7)))
    (DP.sSeq (DP.sSet 3 (DP.eBin DP.ixF (DP.eV 6) (DP.eC (.int 0))))
    (DP.sDrop (DP.eMut DP.appendM 4 (DP.aCons (DP.eBin DP.addF (DP.eV 3) (DP.eC (.int 1))) DP.aNil))))))
    (DP.sSeq (DP.sDrop (DP.eMut DP.reverseM 4 DP.aNil))
    (DP.sRet (DP.eCB DP.tupleF (DP.aCons (DP.eV 4) DP.aNil)))))))))
def m_decreasing_places : DP.Fn := DP.runDef 2 8 d_decreasing_places
/-- perm size -/
def d_is_good : DP.S := (DP.sSeq (DP.sDrop (DP.eCall m_check_size (DP.aCons (DP.eV 1) DP.aNil)))
    (DP.sRet (DP.eBin DP.leF (DP.eCall m_longest_decreasing (DP.aCons (DP.eV 0) DP.aNil)) (DP.eV 1))))
def m_is_good : DP.Fn := DP.runDef 2 2 d_is_good
/-- script k -/
def d__law_cell : DP.S := (DP.sSeq (DP.sIf (DP.tE (DP.eBin DP.ltF (DP.eV 1) (DP.eCB DP.lenF (DP.aCons (DP.eV 0) DP.aNil)))) (DP.sRet (DP.eBin DP.ixF (DP.eV 0) (DP.eV 1))) DP.sNext)
    (DP.sRet (DP.eBin DP.addF (DP.eBin DP.addF (DP.eBin DP.mulF (DP.eC (.int 17)) (DP.eV 1)) (DP.eBin DP.mulF (DP.eC (.int 3)) (DP.eCB DP.lenF (DP.aCons (DP.eV 0) DP.aNil)))) (DP.eC (.int 1)))))
def m__law_cell : DP.Fn := DP.runDef 2 2 d__law_cell
/-- script k number -/
def d__law_number : DP.S := (DP.sSeq (DP.sSet 2 (DP.eCB DP.absF (DP.aCons (DP.eCall m__law_cell (DP.aCons (DP.eV 0) (DP.aCons (DP.eV 1) DP.aNil))) DP.aNil)))
    (DP.sSeq (DP.sIf (DP.tE (DP.eBin DP.ltF (DP.eV 2) (DP.eBin DP.powF (DP.eC (.int 10)) (DP.eC (.int 18))))) (DP.sSeq (DP.sSet 2 (DP.eBin DP.addF (DP.eBin DP.mulF (DP.eBin DP.addF (DP.eV 2) (DP.eC (.int 5))) (DP.eBin DP.addF (DP.eV 2) (DP.eC (.int 48271)))) (DP.eBin DP.mulF (DP.eC (.int 69621)) (DP.eV 1))))
    (DP.sSet 2 (DP.eBin DP.addF (DP.eBin DP.mulF (DP.eV 2) (DP.eBin DP.addF (DP.eBin DP.modF (DP.eCB DP.intF (DP.aCons (DP.eV 2) DP.aNil)) (DP.eC (.int 65537))) (DP.eC (.int 11)))) (DP.eBin DP.fdivF (DP.eV 2) (DP.eC (.int 7)))))) DP.sNext)
    (DP.sRet (DP.eV 2))))
def m__law_number : DP.Fn := DP.runDef 2 3 d__law_number
/-- number count left row at many -/
def d__law_drawn : DP.S := (DP.sSeq (DP.sSet 2 (DP.eRg DP.listRgF (DP.eC (.int 1)) (DP.eBin DP.addF (DP.eV 1) (DP.eC (.int 1)))))
    (DP.sSeq (DP.sSet 3 (DP.eLst DP.aNil))
    (DP.sSeq (DP.sFor (DP.iR1 (DP.eV 1)) (DP.gN 4) (DP.sSeq (DP.sSet 5 (DP.eCB DP.lenF (DP.aCons (DP.eV 2) DP.aNil)))
    (DP.sSeq (DP.sDrop (DP.eMut DP.appendM 3 (DP.aCons (DP.eMut DP.popAtM 2 (DP.aCons (DP.eBin DP.modF (DP.eCB DP.intF (DP.aCons (DP.eV 0) DP.aNil)) (DP.eV 5)) DP.aNil)) DP.aNil)))
    (DP.sSet 0 (DP.eBin DP.fdivF (DP.eV 0) (DP.eV 5))))))
    (DP.sRet (DP.eCB DP.tupleF (DP.aCons (DP.eV 3) DP.aNil))))))
def m__law_drawn : DP.Fn := DP.runDef 2 6 d__law_drawn
/-- value -/
def d__law_whole : DP.S := (DP.sRet (DP.eAnd (DP.eUn (DP.isTyF "int") (DP.eV 0)) (DP.eNot (DP.eUn (DP.isTyF "bool") (DP.eV 0)))))
def m__law_whole : DP.Fn := DP.runDef 1 1 d__law_whole
/-- perm count at to -/
def d__law_pairs : DP.S := (DP.sSeq (DP.sSet 1 (DP.eC (.int 0)))
    (DP.sSeq (DP.sFor (DP.iR1 (DP.eCB DP.lenF (DP.aCons (DP.eV 0) DP.aNil))) (DP.gN 2) (DP.sFor (DP.iR1 (DP.eV 2)) (DP.gN 3) (DP.sSet 1 (DP.eBin DP.addF (DP.eV 1) (DP.eCB DP.intF (DP.aCons (DP.eBin DP.gtF (DP.eBin DP.ixF (DP.eV 0) (DP.eV 3)) (DP.eBin DP.ixF (DP.eV 0) (DP.eV 2))) DP.aNil))))))
    (DP.sRet (DP.eV 1))))
def m__law_pairs : DP.Fn := DP.runDef 1 4 d__law_pairs
/-- perm rows at row -/
def d__law_subsequences : DP.S := (DP.sSeq (DP.sSet 1 (DP.eLst DP.aNil))
    (DP.sSeq (DP.sFor (DP.iR1 (DP.eCB DP.lenF (DP.aCons (DP.eV 0) DP.aNil))) (DP.gN 2) (DP.sSet 1 (DP.eBin DP.addF (DP.eBin DP.addF (DP.eV 1) (DP.eLst (DP.aCons (DP.eLst (DP.aCons (DP.eV 2) DP.aNil)) DP.aNil))) (DP.eLc [3] (DP.iE (DP.eV 1)) (DP.gN 3) (DP.tE (DP.eBin DP.gtF (DP.eBin DP.ixF (DP.eV 0) (DP.eBin DP.ixF (DP.eV 3) (DP.eUn DP.negF (DP.eC (.int 1))))) (DP.eBin DP.ixF (DP.eV 0) (DP.eV 2)))) (DP.eBin DP.addF (DP.eV 3) (DP.eLst (DP.aCons (DP.eV 2) DP.aNil)))))))
    (DP.sRet (DP.eV 1))))
def m__law_subsequences : DP.Fn := DP.runDef 1 4 d__law_subsequences
/-- found perm length before place -/
def d__law_falls : DP.S := (DP.sSeq (DP.sIf (DP.tOr (DP.tNot (DP.tTru (DP.eUn (DP.isTyF "tuple") (DP.eV 0)))) (DP.tE (DP.eBin DP.neF (DP.eCB DP.lenF (DP.aCons (DP.eV 0) DP.aNil)) (DP.eV 2)))) (DP.sRet (DP.eC (.bl false))) DP.sNext)
    (DP.sSeq (DP.sSet 3 (DP.eC (.int 0)))
    (DP.sSeq (DP.sFor (DP.iE (DP.eV 0)) (DP.gN 4) (DP.sSeq (DP.sIf (DP.tOr (DP.tNot (DP.tTru (DP.eCall m__law_whole (DP.aCons (DP.eV 4) DP.aNil)))) (DP.tOr (DP.tE (DP.eBin DP.leF (DP.eV 4) (DP.eV 3))) (DP.tE (DP.eBin DP.gtF (DP.eV 4) (DP.eCB DP.lenF (DP.aCons (DP.eV 1) DP.aNil)))))) (DP.sRet (DP.eC (.bl false))) DP.sNext)
    (DP.sSeq (DP.sIf (DP.tAnd (DP.tE (DP.eBin DP.gtF (DP.eV 3) (DP.eC (.int 0)))) (DP.tE (DP.eBin DP.leF (DP.eBin DP.ixF (DP.eV 1) (DP.eBin DP.subF (DP.eV 3) (DP.eC (.int 1)))) (DP.eBin DP.ixF (DP.eV 1) (DP.eBin DP.subF (DP.eV 4) (DP.eC (.int 1))))))) (DP.sRet (DP.eC (.bl false))) DP.sNext)
    (DP.sSet 3 (DP.eV 4)))))
    (DP.sRet (DP.eC (.bl true))))))
def m__law_falls : DP.Fn := DP.runDef 3 5 d__law_falls
/-- perm size e -/
def d__law_refused : DP.S := (DP.sSeq (DP.sTry subx_WrongSize 2 (DP.sDrop (DP.eCall m_is_good (DP.aCons (DP.eV 0) (DP.aCons (DP.eV 1) DP.aNil)))) (DP.sRet (DP.eAnd (DP.eIsX sub_TableError 2) (DP.eNot (DP.eIsX sub_WrongKind 2)))))
    (DP.sRet (DP.eC (.bl false))))
def m__law_refused : DP.Fn := DP.runDef 2 3 d__law_refused
/-- perm rows length found row -/
def d__law_lengths : DP.S := (DP.sSeq (DP.sFor (DP.iR2 (DP.eC (.int 1)) (DP.eC (.int 13))) (DP.gN 2) (DP.sSeq (DP.sSet 3 (DP.eCall m_decreasing_places (DP.aCons (DP.eV 0) (DP.aCons (DP.eV 2) DP.aNil))))
    (DP.sIf (DP.tE (DP.eBin DP.eqF (DP.eCB DP.lenF (DP.aCons (DP.eLc [4] (DP.iE (DP.eV 1)) (DP.gN 4) (DP.tE (DP.eBin DP.eqF (DP.eCB DP.lenF (DP.aCons (DP.eV 4) DP.aNil)) (DP.eV 2))) (DP.eV 4)) DP.aNil)) (DP.eC (.int 0)))) (DP.sIf (DP.tE (DP.eUn DP.isNotNF (DP.eV 3))) (DP.sRet (DP.eC (.bl false))) DP.sNext) (DP.sIf (DP.tNot (DP.tTru (DP.eCall m__law_falls (DP.aCons (DP.eV 3) (DP.aCons (DP.eV 0) (DP.aCons (DP.eV 2) DP.aNil)))))) (DP.sRet (DP.eC (.bl false))) DP.sNext))))
    (DP.sRet (DP.eC (.bl true))))
def m__law_lengths : DP.Fn := DP.runDef 2 5 d__law_lengths
/-- script count perm rows due at row ranks rank most longest counted size good -/
def d_law : DP.S := (DP.sSeq (DP.sSet 1 (DP.eBin DP.modF (DP.eCB DP.intF (DP.aCons (DP.eCall m__law_cell (DP.aCons (DP.eV 0) (DP.aCons (DP.eC (.int 0)) DP.aNil))) DP.aNil)) (DP.eC (.int 7))))
    (DP.sSeq (DP.sSet 2 (DP.eCall m__law_drawn (DP.aCons (DP.eCall m__law_number (DP.aCons (DP.eV 0) (DP.aCons (DP.eC (.int 1)) DP.aNil))) (DP.aCons (DP.eV 1) DP.aNil))))
    (DP.sSeq (DP.sIf (DP.tE (DP.eBin DP.eqF (DP.eBin DP.modF (DP.eCB DP.intF (DP.aCons (DP.eCall m__law_cell (DP.aCons (DP.eV 0) (DP.aCons (DP.eC (.int 2)) DP.aNil))) DP.aNil)) (DP.eC (.int 6))) (DP.eC (.int 0)))) (DP.sSet 2 (DP.eRg DP.tupRgF (DP.eC (.int 1)) (DP.eBin DP.addF (DP.eV 1) (DP.eC (.int 1))))) DP.sNext)
    (DP.sSeq (DP.sIf (DP.tE (DP.eBin DP.eqF (DP.eBin DP.modF (DP.eCB DP.intF (DP.aCons (DP.eCall m__law_cell (DP.aCons (DP.eV 0) (DP.aCons (DP.eC (.int 2)) DP.aNil))) DP.aNil)) (DP.eC (.int 6))) (DP.eC (.int 1)))) (DP.sSet 2 (DP.eRg DP.tupRdF (DP.eV 1) (DP.eC (.int 0)))) DP.sNext)
    (DP.sSeq (DP.sSet 3 (DP.eCall m__law_subsequences (DP.aCons (DP.eV 2) DP.aNil)))
    (DP.sSeq (DP.sSet 4 (DP.eCB DP.tupleF (DP.aCons (DP.eLc [5] (DP.iR1 (DP.eV 1)) (DP.gN 5) DP.tYes (DP.eCB DP.maxF (DP.aCons (DP.eLc [6] (DP.iE (DP.eV 3)) (DP.gN 6) (DP.tE (DP.eBin DP.eqF (DP.eBin DP.ixF (DP.eV 6) (DP.eUn DP.negF (DP.eC (.int 1)))) (DP.eV 5))) (DP.eCB DP.lenF (DP.aCons (DP.eV 6) DP.aNil))) DP.aNil))) DP.aNil)))
    (DP.sSeq (DP.sSet 7 (DP.eCall m_colours (DP.aCons (DP.eV 2) DP.aNil)))
    (DP.sSeq (DP.sIf (DP.tOr (DP.tNot (DP.tTru (DP.eUn (DP.isTyF "tuple") (DP.eV 7)))) (DP.tOr (DP.tE (DP.eBin DP.gtF (DP.eCB DP.lenF (DP.aCons (DP.eLc [8] (DP.iE (DP.eV 7)) (DP.gN 8) (DP.tNot (DP.tTru (DP.eCall m__law_whole (DP.aCons (DP.eV 8) DP.aNil)))) (DP.eV 8)) DP.aNil)) (DP.eC (.int 0)))) (DP.tE (DP.eBin DP.neF (DP.eV 7) (DP.eV 4))))) (DP.sRet (DP.eC (.bl false))) DP.sNext)
    (DP.sSeq (DP.sSet 9 (DP.eCB DP.maxF (DP.aCons (DP.eBin DP.addF (DP.eLst (DP.aCons (DP.eC (.int 0)) DP.aNil)) (DP.eLc [6] (DP.iE (DP.eV 3)) (DP.gN 6) DP.tYes (DP.eCB DP.lenF (DP.aCons (DP.eV 6) DP.aNil)))) DP.aNil)))
    (DP.sSeq (DP.sSet 10 (DP.eCall m_longest_decreasing (DP.aCons (DP.eV 2) DP.aNil)))
    (DP.sSeq (DP.sSet 11 (DP.eCall m_inversions (DP.aCons (DP.eV 2) DP.aNil)))
    (DP.sSeq (DP.sIf (DP.tOr (DP.tNot (DP.tTru (DP.eCall m__law_whole (DP.aCons (DP.eV 10) DP.aNil)))) (DP.tOr (DP.tE (DP.eBin DP.neF (DP.eV 10) (DP.eV 9))) (DP.tOr (DP.tNot (DP.tTru (DP.eCall m__law_whole (DP.aCons (DP.eV 11) DP.aNil)))) (DP.tE (DP.eBin DP.neF (DP.eV 11) (DP.eCall m__law_pairs (DP.aCons (DP.eV 2) DP.aNil))))))) (DP.sRet (DP.eC (.bl false))) DP.sNext)
    (DP.sSeq (DP.sIf (DP.tNot (DP.tTru (DP.eCall m__law_lengths (DP.aCons (DP.eV 2) (DP.aCons (DP.eV 3) DP.aNil))))) (DP.sRet (DP.eC (.bl false))) DP.sNext)
    (DP.sSeq (DP.sFor (DP.iR2 (DP.eC (.int 1)) (DP.eC (.int 4))) (DP.gN 12) (DP.sSeq (DP.sSet 13 (DP.eCall m_is_good (DP.aCons (DP.eV 2) (DP.aCons (DP.eV 12) DP.aNil))))
    (DP.sIf (DP.tOr (DP.tNot (DP.tTru (DP.eUn (DP.isTyF "bool") (DP.eV 13)))) (DP.tE (DP.eBin DP.neF (DP.eV 13) (DP.eBin DP.leF (DP.eV 9) (DP.eV 12))))) (DP.sRet (DP.eC (.bl false))) DP.sNext)))
    (DP.sSeq (DP.sSet 12 (DP.eBin DP.subF (DP.eBin DP.modF (DP.eCB DP.intF (DP.aCons (DP.eCall m__law_cell (DP.aCons (DP.eV 0) (DP.aCons (DP.eC (.int 3)) DP.aNil))) DP.aNil)) (DP.eC (.int 13))) (DP.eC (.int 4))))
    (DP.sSeq (DP.sIf (DP.tE (DP.eBin DP.eqF (DP.eBin DP.modF (DP.eCB DP.intF (DP.aCons (DP.eBin DP.fdivF (DP.eCall m__law_cell (DP.aCons (DP.eV 0) (DP.aCons (DP.eC (.int 3)) DP.aNil))) (DP.eC (.int 13))) DP.aNil)) (DP.eC (.int 7))) (DP.eC (.int 3)))) (DP.sSet 12 (DP.eBin DP.addF (DP.eC (.int 4)) (DP.eBin DP.modF (DP.eCB DP.intF (DP.aCons (DP.eBin DP.fdivF (DP.eCall m__law_cell (DP.aCons (DP.eV 0) (DP.aCons (DP.eC (.int 3)) DP.aNil))) (DP.eC (.int 91))) DP.aNil)) (DP.eBin DP.powF (DP.eC (.int 10)) (DP.eC (.int 31)))))) DP.sNext)
    (DP.sSeq (DP.sIf (DP.tOr (DP.tE (DP.eBin DP.ltF (DP.eV 12) (DP.eC (.int 1)))) (DP.tE (DP.eBin DP.gtF (DP.eV 12) (DP.eC (.int 3))))) (DP.sIf (DP.tNot (DP.tTru (DP.eCall m__law_refused (DP.aCons (DP.eV 2) (DP.aCons (DP.eV 12) DP.aNil))))) (DP.sRet (DP.eC (.bl false))) DP.sNext) DP.sNext)
    (DP.sRet (DP.eAnd (DP.eBin DP.eqF (DP.eCall m_colours (DP.aCons (DP.eV 2) DP.aNil)) (DP.eV 4)) (DP.eBin DP.eqF (DP.eCall m_longest_decreasing (DP.aCons (DP.eV 2) DP.aNil)) (DP.eV 9)))))))))))))))))))))
def m_law : DP.Fn := DP.runDef 1 14 d_law
abbrev st_check_size : Stmt := topK20 6
abbrev st_inversions : Stmt := topK20 8
abbrev st_colours : Stmt := topK20 9
abbrev st_longest_decreasing : Stmt := topK20 10
abbrev st_decreasing_places : Stmt := topK20 11
abbrev st_is_good : Stmt := topK20 12
abbrev st__law_cell : Stmt := topK20 14
abbrev st__law_number : Stmt := topK20 15
abbrev st__law_drawn : Stmt := topK20 16
abbrev st__law_whole : Stmt := topK20 17
abbrev st__law_pairs : Stmt := topK20 18
abbrev st__law_subsequences : Stmt := topK20 19
abbrev st__law_falls : Stmt := topK20 20
abbrev st__law_refused : Stmt := topK20 21
abbrev st__law_lengths : Stmt := topK20 22
abbrev st_law : Stmt := topK20 23
structure Txt (K : PySem.W.Frag) (mg : Str → Option Value) (aS CS CT CK : Addr) : Prop where
  n_abs : mg "abs" = none
  n_bool : mg "bool" = none
  n_enumerate : mg "enumerate" = none
  n_int : mg "int" = none
  n_isinstance : mg "isinstance" = none
  n_len : mg "len" = none
  n_list : mg "list" = none
  n_max : mg "max" = none
  n_range : mg "range" = none
  n_tuple : mg "tuple" = none
  mg_SIZES : mg "SIZES" = some (.ref aS)
  rep_SIZES : ∀ F, Rep ⟨K, mg, none⟩ F g_SIZES (.ref aS)
  x_WrongSize : mg "WrongSize" = some (.ref CS)
  q_WrongSize : PySem.W.excIn K CS [.type "ValueError", .type "Exception", .type "BaseException", .type "object"] "ValueError.__new__" = true
  k_WrongSize : PySem.W.keepIn K (.ref CS) = true
  b_WrongSize : PySem.W.subIn K (.ref CS) (.type "BaseException") = some true
  t_WrongSize : PySem.W.typeIn K (.ref CS) = some (.type "type")
  sub_WrongSize : SubOk K mg (.ref CS) subx_WrongSize
  x_TableError : mg "TableError" = some (.ref CT)
  kit_TableError : KitsOk K mg (.ref CT) sub_TableError
  x_WrongKind : mg "WrongKind" = some (.ref CK)
  kit_WrongKind : KitsOk K mg (.ref CK) sub_WrongKind
section
variable {P : Program} {w : World} {K : PySem.W.Frag} {mg : Str → Option Value} {base : Heap} {aS CS CT CK : Addr}
theorem sc_check_size : FnScope ["size"] ["size"] (defScope st_check_size) := ⟨rfl, rfl, rfl, by decide +kernel, rfl, by decide +kernel, by decide +kernel⟩
theorem c_check_size {f : Addr} {fd : FuncData} (T : Txt K mg aS CS CT CK) (Fu : Fun K "check_size" "check_size" st_check_size f fd) (hm : mg "check_size" = some (.ref f)) (hb : Binds K fd ["size"] []) : Cal P w K mg base 1 "check_size" ["size"] m_check_size f fd :=
  ⟨okD (k := 0) Fu sc_check_size rfl rfl (by decide) fun cdv A outer s H E hr => by exact ((dss_one (ds_if (dt_cmp (opd_notIn rfl) (de_var 0) (de_c (pe_glob (v := .ref _) rfl T.mg_SIZES rfl) T.rep_SIZES)) (dss_one (ds_raise rfl (takes_of rfl rfl rfl rfl) (pmk_own PySem.F.excBase_ValueError T.q_WrongSize T.x_WrongSize T.k_WrongSize (raises_own T.b_WrongSize T.t_WrongSize) (by exact rfl)) (fun _ _ _ hq => hq _ T.x_WrongSize))) dss_nil))), hm, Fu.kp, hb⟩
theorem sc_inversions : FnScope ["perm", "count", "at", "value", "more"] ["perm"] (defScope st_inversions) := ⟨rfl, rfl, rfl, by decide +kernel, rfl, by decide +kernel, by decide +kernel⟩
theorem c_inversions {f : Addr} {fd : FuncData} (T : Txt K mg aS CS CT CK) (Fu : Fun K "inversions" "inversions" st_inversions f fd) (hm : mg "inversions" = some (.ref f)) (hb : Binds K fd ["perm"] []) : Cal P w K mg base 1 "inversions" ["perm"] m_inversions f fd :=
  ⟨okD (k := 0) Fu sc_inversions rfl rfl (by decide) fun cdv A outer s H E hr => by exact ((dss_cons (ds_set 1 sc_inversions.nd de_int)
    (dss_cons (ds_for (passes_of rfl) rfl (pi_enumS rfl T.n_enumerate (de_var 0)) (tri_enum ⟨rfl, rfl⟩) (pg_tup rfl (pgs_cons (pg_name sc_inversions.nd rfl (by first | exact Or.inl rfl | exact Or.inr rfl)) (pgs_cons (pg_name sc_inversions.nd rfl (by first | exact Or.inl rfl | exact Or.inr rfl)) pgs_nil))) (trg_tup true ⟨rfl, rfl⟩ (trgs_cons 2 (trgs_cons 3 trgs_nil))) (dss_one (ds_set 1 sc_inversions.nd (de_bin (opd_add rfl) (de_var 1) (de_cb (cbd_len rfl) rfl T.n_len (by decide +kernel) (da_cons (de_lc rfl sc_inversions.nd (pi_seq (de_sl (sld rfl) (de_var 0) (dp_e (de_bin (opd_add rfl) (de_var 2) de_int)) dp_no)) (tri_seq ⟨rfl, rfl⟩) (blkOk_by (own := [("more", 4)]) (by exact rfl)) (fun _ _ _ _ _ => (pg_name sc_inversions.nd rfl (by first | exact Or.inl rfl | exact Or.inr rfl))) (trg_name 4) (gl_name (by decide)) (fun _ _ _ _ _ => (dts_one (dt_cmp opd_lt (de_var 4) (de_var 3)))) (fun _ _ _ _ _ => (de_var 4))) da_nil))))))
    (dss_one (ds_ret (de_var 1)))))), hm, Fu.kp, hb⟩
theorem sc_colours : FnScope ["perm", "ranks", "at", "value", "longer", "to"] ["perm"] (defScope st_colours) := ⟨rfl, rfl, rfl, by decide +kernel, rfl, by decide +kernel, by decide +kernel⟩
theorem c_colours {f : Addr} {fd : FuncData} (T : Txt K mg aS CS CT CK) (Fu : Fun K "colours" "colours" st_colours f fd) (hm : mg "colours" = some (.ref f)) (hb : Binds K fd ["perm"] []) : Cal P w K mg base 1 "colours" ["perm"] m_colours f fd :=
  ⟨okD (k := 0) Fu sc_colours rfl rfl (by decide) fun cdv A outer s H E hr => by exact ((dss_cons (ds_set 1 sc_colours.nd (de_lst da_nil))
    (dss_cons (ds_for (passes_of rfl) rfl (pi_enumS rfl T.n_enumerate (de_var 0)) (tri_enum ⟨rfl, rfl⟩) (pg_tup rfl (pgs_cons (pg_name sc_colours.nd rfl (by first | exact Or.inl rfl | exact Or.inr rfl)) (pgs_cons (pg_name sc_colours.nd rfl (by first | exact Or.inl rfl | exact Or.inr rfl)) pgs_nil))) (trg_tup true ⟨rfl, rfl⟩ (trgs_cons 2 (trgs_cons 3 trgs_nil))) (dss_cons (ds_setLc 4 rfl sc_colours.nd rfl rfl (sw_true rfl rfl rfl rfl) (pi_range1 rfl T.n_range (da_cons (de_var 2) da_nil)) tri_r1 (blkOk_by (own := [("to", 5)]) (by exact rfl)) (fun _ _ _ _ _ => (pg_name sc_colours.nd rfl (by first | exact Or.inl rfl | exact Or.inr rfl))) (trg_name 5) (gl_name (by decide)) (fun _ _ _ _ _ => (dts_one (dt_cmp opd_gt (de_ix (ixd rfl) (de_var 0) (de_var 5)) (de_var 3)))) (fun _ _ _ _ _ => (de_ix (ixd rfl) (de_var 1) (de_var 5))))
    (dss_one (ds_drop (de_append 1 (da_cons (de_bin (opd_add rfl) de_int (de_maxD ⟨rfl, rfl⟩ rfl hr.units rfl T.n_max (de_var 4) de_int (hpk := pk_cons de_int pk_nil))) da_nil) (pv 1))))))
    (dss_one (ds_ret (de_cty (cbd_tuple rfl) rfl T.n_tuple (by decide +kernel) (da_cons (de_var 1) da_nil))))))), hm, Fu.kp, hb⟩
theorem sc_longest_decreasing : FnScope ["perm"] ["perm"] (defScope st_longest_decreasing) := ⟨rfl, rfl, rfl, by decide +kernel, rfl, by decide +kernel, by decide +kernel⟩
theorem c_longest_decreasing {f : Addr} {fd : FuncData} (T : Txt K mg aS CS CT CK) {f_colours : Addr} {fd_colours : FuncData} (C_colours : Cal P w K mg base 1 "colours" ["perm"] m_colours f_colours fd_colours) (Fu : Fun K "longest_decreasing" "longest_decreasing" st_longest_decreasing f fd) (hm : mg "longest_decreasing" = some (.ref f)) (hb : Binds K fd ["perm"] []) : Cal P w K mg base 2 "longest_decreasing" ["perm"] m_longest_decreasing f fd :=
  ⟨okD (k := 1) Fu sc_longest_decreasing rfl rfl (by decide) fun cdv A outer s H E hr => by exact ((dss_one (ds_ret (de_maxD ⟨rfl, rfl⟩ rfl hr.units rfl T.n_max (de_call C_colours.ok (hr.mono (by decide)) rfl C_colours.m C_colours.kp C_colours.b (takes_of rfl rfl rfl rfl) (da_cons (de_var 0) da_nil)) de_int (hpk := pk_cons de_int pk_nil))))), hm, Fu.kp, hb⟩
theorem sc_decreasing_places : FnScope ["perm", "length", "ranks", "at", "places", "rank", "earlier", "to"] ["perm", "length"] (defScope st_decreasing_places) := ⟨rfl, rfl, rfl, by decide +kernel, rfl, by decide +kernel, by decide +kernel⟩
theorem c_decreasing_places {f : Addr} {fd : FuncData} (T : Txt K mg aS CS CT CK) {f_colours : Addr} {fd_colours : FuncData} (C_colours : Cal P w K mg base 1 "colours" ["perm"] m_colours f_colours fd_colours) (Fu : Fun K "decreasing_places" "decreasing_places" st_decreasing_places f fd) (hm : mg "decreasing_places" = some (.ref f)) (hb : Binds K fd ["perm", "length"] []) : Cal P w K mg base 2 "decreasing_places" ["perm", "length"] m_decreasing_places f fd :=
  ⟨okD (k := 1) Fu sc_decreasing_places rfl rfl (by decide) fun cdv A outer s H E hr => by exact ((dss_cons (ds_set 2 sc_decreasing_places.nd (de_call C_colours.ok (hr.mono (by decide)) rfl C_colours.m C_colours.kp C_colours.b (takes_of rfl rfl rfl rfl) (da_cons (de_var 0) da_nil)))
    (dss_cons (ds_if (dt_cmp (opd_notIn rfl) (de_var 1) (de_var 2)) (dss_one (ds_ret de_non)) dss_nil)
    (dss_cons (ds_set 3 sc_decreasing_places.nd (de_tupIndex ⟨rfl, rfl⟩ (de_var 2) (da_cons (de_var 1) da_nil)))
    (dss_cons (ds_set 4 sc_decreasing_places.nd (de_lst (da_cons (de_bin (opd_add rfl) (de_var 3) de_int) da_nil)))
    (dss_cons (ds_for (passes_of rfl) rfl (pi_range3 rfl T.n_range (pa_cons (de_bin opd_sub (de_var 1) de_int) (pa_cons de_int (pa_cons pe_m1 pa_nil)))) (tri_rd ta3) (pg_name sc_decreasing_places.nd rfl (by first | exact Or.inl rfl | exact Or.inr rfl)) (trg_name 5) (dss_cons (ds_setLc 6 rfl sc_decreasing_places.nd rfl rfl (sw_true rfl rfl rfl rfl) (pi_range1 rfl T.n_range (da_cons (de_var 3) da_nil)) tri_r1 (blkOk_by (own := [("to", 7)]) (by exact rfl)) (fun _ _ _ _ _ => (pg_name sc_decreasing_places.nd rfl (by first | exact Or.inl rfl | exact Or.inr rfl))) (trg_name 7) (gl_name (by decide)) (fun _ _ _ _ _ => (dts_one (L2.PW.pt (dw_and (dt_cmp (opd_eq rfl hr.units) (de_ix (ixd rfl) (de_var 2) (de_var 7)) (de_var 5)) (dw_and1 (dt_cmp opd_gt (de_ix (ixd rfl) (de_var 0) (de_var 7)) (de_ix (ixd rfl) (de_var 0) (de_var 3)))))))) (fun _ _ _ _ _ => (de_var 7)))
    (dss_cons (ds_set 3 sc_decreasing_places.nd (de_ix (ixd rfl) (de_var 6) de_int))
    (dss_one (ds_drop (de_append 4 (da_cons (de_bin (opd_add rfl) (de_var 3) de_int) da_nil) (pv 4)))))))
    (dss_cons (ds_drop (de_reverse 4 (pv 4)))
    (dss_one (ds_ret (de_cty (cbd_tuple rfl) rfl T.n_tuple (by decide +kernel) (da_cons (de_var 4) da_nil))))))))))), hm, Fu.kp, hb⟩
theorem sc_is_good : FnScope ["perm", "size"] ["perm", "size"] (defScope st_is_good) := ⟨rfl, rfl, rfl, by decide +kernel, rfl, by decide +kernel, by decide +kernel⟩
theorem c_is_good {f : Addr} {fd : FuncData} (T : Txt K mg aS CS CT CK) {f_check_size : Addr} {fd_check_size : FuncData} (C_check_size : Cal P w K mg base 1 "check_size" ["size"] m_check_size f_check_size fd_check_size) {f_longest_decreasing : Addr} {fd_longest_decreasing : FuncData} (C_longest_decreasing : Cal P w K mg base 2 "longest_decreasing" ["perm"] m_longest_decreasing f_longest_decreasing fd_longest_decreasing) (Fu : Fun K "is_good" "is_good" st_is_good f fd) (hm : mg "is_good" = some (.ref f)) (hb : Binds K fd ["perm", "size"] []) : Cal P w K mg base 3 "is_good" ["perm", "size"] m_is_good f fd :=
  ⟨okD (k := 2) Fu sc_is_good rfl rfl (by decide) fun cdv A outer s H E hr => by exact ((dss_cons (ds_drop (de_call C_check_size.ok (hr.mono (by decide)) rfl C_check_size.m C_check_size.kp C_check_size.b (takes_of rfl rfl rfl rfl) (da_cons (de_var 1) da_nil)))
    (dss_one (ds_ret (de_cmp opd_le (de_call C_longest_decreasing.ok (hr.mono (by decide)) rfl C_longest_decreasing.m C_longest_decreasing.kp C_longest_decreasing.b (takes_of rfl rfl rfl rfl) (da_cons (de_var 0) da_nil)) (de_var 1)))))), hm, Fu.kp, hb⟩
theorem sc__law_cell : FnScope ["script", "k"] ["script", "k"] (defScope st__law_cell) := ⟨rfl, rfl, rfl, by decide +kernel, rfl, by decide +kernel, by decide +kernel⟩
theorem c__law_cell {f : Addr} {fd : FuncData} (T : Txt K mg aS CS CT CK) (Fu : Fun K "_law_cell" "_law_cell" st__law_cell f fd) (hm : mg "_law_cell" = some (.ref f)) (hb : Binds K fd ["script", "k"] []) : Cal P w K mg base 1 "_law_cell" ["script", "k"] m__law_cell f fd :=
  ⟨okD (k := 0) Fu sc__law_cell rfl rfl (by decide) fun cdv A outer s H E hr => by exact ((dss_cons (ds_if (dt_cmp opd_lt (de_var 1) (de_cb (cbd_len rfl) rfl T.n_len (by decide +kernel) (da_cons (de_var 0) da_nil))) (dss_one (ds_ret (de_ix (ixd rfl) (de_var 0) (de_var 1)))) dss_nil)
    (dss_one (ds_ret (de_bin (opd_add rfl) (de_bin (opd_add rfl) (de_bin opd_mul de_int (de_var 1)) (de_bin opd_mul de_int (de_cb (cbd_len rfl) rfl T.n_len (by decide +kernel) (da_cons (de_var 0) da_nil)))) de_int))))), hm, Fu.kp, hb⟩
theorem sc__law_number : FnScope ["script", "k", "number"] ["script", "k"] (defScope st__law_number) := ⟨rfl, rfl, rfl, by decide +kernel, rfl, by decide +kernel, by decide +kernel⟩
theorem c__law_number {f : Addr} {fd : FuncData} (T : Txt K mg aS CS CT CK) {f__law_cell : Addr} {fd__law_cell : FuncData} (C__law_cell : Cal P w K mg base 1 "_law_cell" ["script", "k"] m__law_cell f__law_cell fd__law_cell) (Fu : Fun K "_law_number" "_law_number" st__law_number f fd) (hm : mg "_law_number" = some (.ref f)) (hb : Binds K fd ["script", "k"] []) : Cal P w K mg base 2 "_law_number" ["script", "k"] m__law_number f fd :=
  ⟨okD (k := 1) Fu sc__law_number rfl rfl (by decide) fun cdv A outer s H E hr => by exact ((dss_cons (ds_set 2 sc__law_number.nd (de_cb cbd_abs rfl T.n_abs (by decide +kernel) (da_cons (de_call C__law_cell.ok (hr.mono (by decide)) rfl C__law_cell.m C__law_cell.kp C__law_cell.b (takes_of rfl rfl rfl rfl) (da_cons (de_var 0) (da_cons (de_var 1) da_nil))) da_nil)))
    (dss_cons (ds_if (dt_cmp opd_lt (de_var 2) (de_bin opd_pow de_int de_int)) (dss_cons (ds_set 2 sc__law_number.nd (de_bin (opd_add rfl) (de_bin opd_mul (de_bin (opd_add rfl) (de_var 2) de_int) (de_bin (opd_add rfl) (de_var 2) de_int)) (de_bin opd_mul de_int (de_var 1))))
    (dss_one (ds_set 2 sc__law_number.nd (de_bin (opd_add rfl) (de_bin opd_mul (de_var 2) (de_bin (opd_add rfl) (de_bin opd_mod (de_cty cbd_int rfl T.n_int (by decide +kernel) (da_cons (de_var 2) da_nil)) de_int) de_int)) (de_bin opd_fdiv (de_var 2) de_int))))) dss_nil)
    (dss_one (ds_ret (de_var 2)))))), hm, Fu.kp, hb⟩
theorem sc__law_drawn : FnScope ["number", "count", "left", "row", "at", "many"] ["number", "count"] (defScope st__law_drawn) := ⟨rfl, rfl, rfl, by decide +kernel, rfl, by decide +kernel, by decide +kernel⟩
theorem c__law_drawn {f : Addr} {fd : FuncData} (T : Txt K mg aS CS CT CK) (Fu : Fun K "_law_drawn" "_law_drawn" st__law_drawn f fd) (hm : mg "_law_drawn" = some (.ref f)) (hb : Binds K fd ["number", "count"] []) : Cal P w K mg base 1 "_law_drawn" ["number", "count"] m__law_drawn f fd :=
  ⟨okD (k := 0) Fu sc__law_drawn rfl rfl (by decide) fun cdv A outer s H E hr => by exact ((dss_cons (ds_set 2 sc__law_drawn.nd (de_listRg rfl rfl T.n_list (prg_2 rfl T.n_range de_int (de_bin (opd_add rfl) (de_var 1) de_int))))
    (dss_cons (ds_set 3 sc__law_drawn.nd (de_lst da_nil))
    (dss_cons (ds_for (passes_of rfl) rfl (pi_range1 rfl T.n_range (da_cons (de_var 1) da_nil)) tri_r1 (pg_name sc__law_drawn.nd rfl (by first | exact Or.inl rfl | exact Or.inr rfl)) (trg_name 4) (dss_cons (ds_set 5 sc__law_drawn.nd (de_cb (cbd_len rfl) rfl T.n_len (by decide +kernel) (da_cons (de_var 2) da_nil)))
    (dss_cons (ds_drop (de_append 3 (da_cons (de_popAt 2 (da_cons (de_bin opd_mod (de_cty cbd_int rfl T.n_int (by decide +kernel) (da_cons (de_var 0) da_nil)) (de_var 5)) da_nil) (pv 2)) da_nil) (pv 3)))
    (dss_one (ds_set 0 sc__law_drawn.nd (de_bin opd_fdiv (de_var 0) (de_var 5)))))))
    (dss_one (ds_ret (de_cty (cbd_tuple rfl) rfl T.n_tuple (by decide +kernel) (da_cons (de_var 3) da_nil)))))))), hm, Fu.kp, hb⟩
theorem sc__law_whole : FnScope ["value"] ["value"] (defScope st__law_whole) := ⟨rfl, rfl, rfl, by decide +kernel, rfl, by decide +kernel, by decide +kernel⟩
theorem c__law_whole {f : Addr} {fd : FuncData} (T : Txt K mg aS CS CT CK) (Fu : Fun K "_law_whole" "_law_whole" st__law_whole f fd) (hm : mg "_law_whole" = some (.ref f)) (hb : Binds K fd ["value"] []) : Cal P w K mg base 1 "_law_whole" ["value"] m__law_whole f fd :=
  ⟨okD (k := 0) Fu sc__law_whole rfl rfl (by decide) fun cdv A outer s H E hr => by exact ((dss_one (ds_ret (de_and (de_isTy ⟨rfl, rfl⟩ tab_int rfl T.n_isinstance rfl T.n_int (by decide +kernel) (de_var 0)) (de_one (de_not (de_isTy ⟨rfl, rfl⟩ tab_bool rfl T.n_isinstance rfl T.n_bool (by decide +kernel) (de_var 0)))))))), hm, Fu.kp, hb⟩
theorem sc__law_pairs : FnScope ["perm", "count", "at", "to"] ["perm"] (defScope st__law_pairs) := ⟨rfl, rfl, rfl, by decide +kernel, rfl, by decide +kernel, by decide +kernel⟩
theorem c__law_pairs {f : Addr} {fd : FuncData} (T : Txt K mg aS CS CT CK) (Fu : Fun K "_law_pairs" "_law_pairs" st__law_pairs f fd) (hm : mg "_law_pairs" = some (.ref f)) (hb : Binds K fd ["perm"] []) : Cal P w K mg base 1 "_law_pairs" ["perm"] m__law_pairs f fd :=
  ⟨okD (k := 0) Fu sc__law_pairs rfl rfl (by decide) fun cdv A outer s H E hr => by exact ((dss_cons (ds_set 1 sc__law_pairs.nd de_int)
    (dss_cons (ds_for (passes_of rfl) rfl (pi_range1 rfl T.n_range (da_cons (de_cb (cbd_len rfl) rfl T.n_len (by decide +kernel) (da_cons (de_var 0) da_nil)) da_nil)) tri_r1 (pg_name sc__law_pairs.nd rfl (by first | exact Or.inl rfl | exact Or.inr rfl)) (trg_name 2) (dss_one (ds_for (passes_of rfl) rfl (pi_range1 rfl T.n_range (da_cons (de_var 2) da_nil)) tri_r1 (pg_name sc__law_pairs.nd rfl (by first | exact Or.inl rfl | exact Or.inr rfl)) (trg_name 3) (dss_one (ds_set 1 sc__law_pairs.nd (de_bin (opd_add rfl) (de_var 1) (de_cty cbd_int rfl T.n_int (by decide +kernel) (da_cons (de_cmp opd_gt (de_ix (ixd rfl) (de_var 0) (de_var 3)) (de_ix (ixd rfl) (de_var 0) (de_var 2))) da_nil))))))))
    (dss_one (ds_ret (de_var 1)))))), hm, Fu.kp, hb⟩
theorem sc__law_subsequences : FnScope ["perm", "rows", "at", "row"] ["perm"] (defScope st__law_subsequences) := ⟨rfl, rfl, rfl, by decide +kernel, rfl, by decide +kernel, by decide +kernel⟩
theorem c__law_subsequences {f : Addr} {fd : FuncData} (T : Txt K mg aS CS CT CK) (Fu : Fun K "_law_subsequences" "_law_subsequences" st__law_subsequences f fd) (hm : mg "_law_subsequences" = some (.ref f)) (hb : Binds K fd ["perm"] []) : Cal P w K mg base 1 "_law_subsequences" ["perm"] m__law_subsequences f fd :=
  ⟨okD (k := 0) Fu sc__law_subsequences rfl rfl (by decide) fun cdv A outer s H E hr => by exact ((dss_cons (ds_set 1 sc__law_subsequences.nd (de_lst da_nil))
    (dss_cons (ds_for (passes_of rfl) rfl (pi_range1 rfl T.n_range (da_cons (de_cb (cbd_len rfl) rfl T.n_len (by decide +kernel) (da_cons (de_var 0) da_nil)) da_nil)) tri_r1 (pg_name sc__law_subsequences.nd rfl (by first | exact Or.inl rfl | exact Or.inr rfl)) (trg_name 2) (dss_one (ds_set 1 sc__law_subsequences.nd (de_bin (opd_add rfl) (de_bin (opd_add rfl) (de_var 1) (de_lst (da_cons (de_lst (da_cons (de_var 2) da_nil)) da_nil))) (de_lc rfl sc__law_subsequences.nd (pi_seq (de_var 1)) (tri_seq ⟨rfl, rfl⟩) (blkOk_by (own := [("row", 3)]) (by exact rfl)) (fun _ _ _ _ _ => (pg_name sc__law_subsequences.nd rfl (by first | exact Or.inl rfl | exact Or.inr rfl))) (trg_name 3) (gl_name (by decide)) (fun _ _ _ _ _ => (dts_one (dt_cmp opd_gt (de_ix (ixd rfl) (de_var 0) (de_ix (ixd rfl) (de_var 3) (de_neg de_int))) (de_ix (ixd rfl) (de_var 0) (de_var 2))))) (fun _ _ _ _ _ => (de_bin (opd_add rfl) (de_var 3) (de_lst (da_cons (de_var 2) da_nil)))))))))
    (dss_one (ds_ret (de_var 1)))))), hm, Fu.kp, hb⟩
theorem sc__law_falls : FnScope ["found", "perm", "length", "before", "place"] ["found", "perm", "length"] (defScope st__law_falls) := ⟨rfl, rfl, rfl, by decide +kernel, rfl, by decide +kernel, by decide +kernel⟩
theorem c__law_falls {f : Addr} {fd : FuncData} (T : Txt K mg aS CS CT CK) {f__law_whole : Addr} {fd__law_whole : FuncData} (C__law_whole : Cal P w K mg base 1 "_law_whole" ["value"] m__law_whole f__law_whole fd__law_whole) (Fu : Fun K "_law_falls" "_law_falls" st__law_falls f fd) (hm : mg "_law_falls" = some (.ref f)) (hb : Binds K fd ["found", "perm", "length"] []) : Cal P w K mg base 2 "_law_falls" ["found", "perm", "length"] m__law_falls f fd :=
  ⟨okD (k := 1) Fu sc__law_falls rfl rfl (by decide) fun cdv A outer s H E hr => by exact ((dss_cons (ds_if (L2.PW.pt (dw_or (dt_not (dt_tru ⟨rfl, rfl⟩ (de_isTy ⟨rfl, rfl⟩ tab_tuple rfl T.n_isinstance rfl T.n_tuple (by decide +kernel) (de_var 0)))) (dw_or1 (dt_cmp (opd_ne rfl hr.units) (de_cb (cbd_len rfl) rfl T.n_len (by decide +kernel) (da_cons (de_var 0) da_nil)) (de_var 2))))) (dss_one (ds_ret de_bl)) dss_nil)
    (dss_cons (ds_set 3 sc__law_falls.nd de_int)
    (dss_cons (ds_for (passes_of rfl) rfl (pi_seq (de_var 0)) (tri_seq ⟨rfl, rfl⟩) (pg_name sc__law_falls.nd rfl (by first | exact Or.inl rfl | exact Or.inr rfl)) (trg_name 4) (dss_cons (ds_if (L2.PW.pt (dw_or (dt_not (dt_tru ⟨rfl, rfl⟩ (de_call C__law_whole.ok (hr.mono (by decide)) rfl C__law_whole.m C__law_whole.kp C__law_whole.b (takes_of rfl rfl rfl rfl) (da_cons (de_var 4) da_nil)))) (dw_or (dt_cmp opd_le (de_var 4) (de_var 3)) (dw_or1 (dt_cmp opd_gt (de_var 4) (de_cb (cbd_len rfl) rfl T.n_len (by decide +kernel) (da_cons (de_var 1) da_nil))))))) (dss_one (ds_ret de_bl)) dss_nil)
    (dss_cons (ds_if (L2.PW.pt (dw_and (dt_cmp opd_gt (de_var 3) de_int) (dw_and1 (dt_cmp opd_le (de_ix (ixd rfl) (de_var 1) (de_bin opd_sub (de_var 3) de_int)) (de_ix (ixd rfl) (de_var 1) (de_bin opd_sub (de_var 4) de_int)))))) (dss_one (ds_ret de_bl)) dss_nil)
    (dss_one (ds_set 3 sc__law_falls.nd (de_var 4))))))
    (dss_one (ds_ret de_bl)))))), hm, Fu.kp, hb⟩
theorem sc__law_refused : FnScope ["perm", "size", "e"] ["perm", "size"] (defScope st__law_refused) := ⟨rfl, rfl, rfl, by decide +kernel, rfl, by decide +kernel, by decide +kernel⟩
theorem c__law_refused {f : Addr} {fd : FuncData} (T : Txt K mg aS CS CT CK) {f_is_good : Addr} {fd_is_good : FuncData} (C_is_good : Cal P w K mg base 3 "is_good" ["perm", "size"] m_is_good f_is_good fd_is_good) (Fu : Fun K "_law_refused" "_law_refused" st__law_refused f fd) (hm : mg "_law_refused" = some (.ref f)) (hb : Binds K fd ["perm", "size"] []) : Cal P w K mg base 4 "_law_refused" ["perm", "size"] m__law_refused f fd :=
  ⟨okD (k := 3) Fu sc__law_refused rfl rfl (by decide) fun cdv A outer s H E hr => by exact ((dss_cons (ds_try 2 rfl ⟨rfl, rfl⟩ rfl rfl sc__law_refused.nd rfl rfl ⟨rfl, by decide, Or.inl T.x_WrongSize⟩ (takes_of rfl rfl rfl rfl) T.sub_WrongSize
    (fun W1 pn1 xe1 tk1 po1 => (dss_one (ds_drop (de_call C_is_good.ok (hr.mono (by decide)) rfl C_is_good.m C_is_good.kp C_is_good.b tk1 (da_cons (de_var 0) (da_cons (de_var 1) da_nil))))))
    (fun ax oe clsx pnx hz hfl => (dss_one (ds_ret (de_and (de_isX 2 ⟨rfl, rfl⟩ hz hfl T.kit_TableError rfl T.n_isinstance rfl (Or.inl rfl) rfl T.x_TableError) (de_one (de_not (de_isX 2 ⟨rfl, rfl⟩ hz hfl T.kit_WrongKind rfl T.n_isinstance rfl (Or.inl rfl) rfl T.x_WrongKind))))))))
    (dss_one (ds_ret de_bl)))), hm, Fu.kp, hb⟩
theorem sc__law_lengths : FnScope ["perm", "rows", "length", "found", "row"] ["perm", "rows"] (defScope st__law_lengths) := ⟨rfl, rfl, rfl, by decide +kernel, rfl, by decide +kernel, by decide +kernel⟩
theorem c__law_lengths {f : Addr} {fd : FuncData} (T : Txt K mg aS CS CT CK) {f_decreasing_places : Addr} {fd_decreasing_places : FuncData} (C_decreasing_places : Cal P w K mg base 2 "decreasing_places" ["perm", "length"] m_decreasing_places f_decreasing_places fd_decreasing_places) {f__law_falls : Addr} {fd__law_falls : FuncData} (C__law_falls : Cal P w K mg base 2 "_law_falls" ["found", "perm", "length"] m__law_falls f__law_falls fd__law_falls) (Fu : Fun K "_law_lengths" "_law_lengths" st__law_lengths f fd) (hm : mg "_law_lengths" = some (.ref f)) (hb : Binds K fd ["perm", "rows"] []) : Cal P w K mg base 3 "_law_lengths" ["perm", "rows"] m__law_lengths f fd :=
  ⟨okD (k := 2) Fu sc__law_lengths rfl rfl (by decide) fun cdv A outer s H E hr => by exact ((dss_cons (ds_for (passes_of rfl) rfl (pi_range2 rfl T.n_range (da_cons de_int (da_cons de_int da_nil))) tri_r2 (pg_name sc__law_lengths.nd rfl (by first | exact Or.inl rfl | exact Or.inr rfl)) (trg_name 2) (dss_cons (ds_set 3 sc__law_lengths.nd (de_call C_decreasing_places.ok (hr.mono (by decide)) rfl C_decreasing_places.m C_decreasing_places.kp C_decreasing_places.b (takes_of rfl rfl rfl rfl) (da_cons (de_var 0) (da_cons (de_var 2) da_nil))))
    (dss_one (ds_if (dt_cmp (opd_eq rfl hr.units) (de_cb (cbd_len rfl) rfl T.n_len (by decide +kernel) (da_cons (de_lc rfl sc__law_lengths.nd (pi_seq (de_var 1)) (tri_seq ⟨rfl, rfl⟩) (blkOk_by (own := [("row", 4)]) (by exact rfl)) (fun _ _ _ _ _ => (pg_name sc__law_lengths.nd rfl (by first | exact Or.inl rfl | exact Or.inr rfl))) (trg_name 4) (gl_name (by decide)) (fun _ _ _ _ _ => (dts_one (dt_cmp (opd_eq rfl hr.units) (de_cb (cbd_len rfl) rfl T.n_len (by decide +kernel) (da_cons (de_var 4) da_nil)) (de_var 2)))) (fun _ _ _ _ _ => (de_var 4))) da_nil)) de_int) (dss_one (ds_if (dt_notN (de_var 3)) (dss_one (ds_ret de_bl)) dss_nil)) (dss_one (ds_if (dt_not (dt_tru ⟨rfl, rfl⟩ (de_call C__law_falls.ok (hr.mono (by decide)) rfl C__law_falls.m C__law_falls.kp C__law_falls.b (takes_of rfl rfl rfl rfl) (da_cons (de_var 3) (da_cons (de_var 0) (da_cons (de_var 2) da_nil)))))) (dss_one (ds_ret de_bl)) dss_nil))))))
    (dss_one (ds_ret de_bl)))), hm, Fu.kp, hb⟩
theorem sc_law : FnScope ["script", "count", "perm", "rows", "due", "at", "row", "ranks", "rank", "most", "longest", "counted", "size", "good"] ["script"] (defScope st_law) := ⟨rfl, rfl, rfl, by decide +kernel, rfl, by decide +kernel, by decide +kernel⟩
theorem c_law {f : Addr} {fd : FuncData} (T : Txt K mg aS CS CT CK) {f__law_cell : Addr} {fd__law_cell : FuncData} (C__law_cell : Cal P w K mg base 1 "_law_cell" ["script", "k"] m__law_cell f__law_cell fd__law_cell) {f__law_drawn : Addr} {fd__law_drawn : FuncData} (C__law_drawn : Cal P w K mg base 1 "_law_drawn" ["number", "count"] m__law_drawn f__law_drawn fd__law_drawn) {f__law_number : Addr} {fd__law_number : FuncData} (C__law_number : Cal P w K mg base 2 "_law_number" ["script", "k"] m__law_number f__law_number fd__law_number) {f__law_subsequences : Addr} {fd__law_subsequences : FuncData} (C__law_subsequences : Cal P w K mg base 1 "_law_subsequences" ["perm"] m__law_subsequences f__law_subsequences fd__law_subsequences) {f_colours : Addr} {fd_colours : FuncData} (C_colours : Cal P w K mg base 1 "colours" ["perm"] m_colours f_colours fd_colours) {f__law_whole : Addr} {fd__law_whole : FuncData} (C__law_whole : Cal P w K mg base 1 "_law_whole" ["value"] m__law_whole f__law_whole fd__law_whole) {f_longest_decreasing : Addr} {fd_longest_decreasing : FuncData} (C_longest_decreasing : Cal P w K mg base 2 "longest_decreasing" ["perm"] m_longest_decreasing f_longest_decreasing fd_longest_decreasing) {f_inversions : Addr} {fd_inversions : FuncData} (C_inversions : Cal P w K mg base 1 "inversions" ["perm"] m_inversions f_inversions fd_inversions) {f__law_pairs : Addr} {fd__law_pairs : FuncData} (C__law_pairs : Cal P w K mg base 1 "_law_pairs" ["perm"] m__law_pairs f__law_pairs fd__law_pairs) {f__law_lengths : Addr} {fd__law_lengths : FuncData} (C__law_lengths : Cal P w K mg base 3 "_law_lengths" ["perm", "rows"] m__law_lengths f__law_lengths fd__law_lengths) {f_is_good : Addr} {fd_is_good : FuncData} (C_is_good : Cal P w K mg base 3 "is_good" ["perm", "size"] m_is_good f_is_good fd_is_good) {f__law_refused : Addr} {fd__law_refused : FuncData} (C__law_refused : Cal P w K mg base 4 "_law_refused" ["perm", "size"] m__law_refused f__law_refused fd__law_refused) (Fu : Fun K "law" "law" st_law f fd) (hm : mg "law" = some (.ref f)) (hb : Binds K fd ["script"] []) : Cal P w K mg base 5 "law" ["script"] m_law f fd :=
  ⟨okD (k := 4) Fu sc_law rfl rfl (by decide) fun cdv A outer s H E hr => by exact ((dss_cons (ds_set 1 sc_law.nd (de_bin opd_mod (de_cty cbd_int rfl T.n_int (by decide +kernel) (da_cons (de_call C__law_cell.ok (hr.mono (by decide)) rfl C__law_cell.m C__law_cell.kp C__law_cell.b (takes_of rfl rfl rfl rfl) (da_cons (de_var 0) (da_cons de_int da_nil))) da_nil)) de_int))
    (dss_cons (ds_set 2 sc_law.nd (de_call C__law_drawn.ok (hr.mono (by decide)) rfl C__law_drawn.m C__law_drawn.kp C__law_drawn.b (takes_of rfl rfl rfl rfl) (da_cons (de_call C__law_number.ok (hr.mono (by decide)) rfl C__law_number.m C__law_number.kp C__law_number.b (takes_of rfl rfl rfl rfl) (da_cons (de_var 0) (da_cons de_int da_nil))) (da_cons (de_var 1) da_nil))))
    (dss_cons (ds_if (dt_cmp (opd_eq rfl hr.units) (de_bin opd_mod (de_cty cbd_int rfl T.n_int (by decide +kernel) (da_cons (de_call C__law_cell.ok (hr.mono (by decide)) rfl C__law_cell.m C__law_cell.kp C__law_cell.b (takes_of rfl rfl rfl rfl) (da_cons (de_var 0) (da_cons de_int da_nil))) da_nil)) de_int) de_int) (dss_one (ds_set 2 sc_law.nd (de_tupRg rfl rfl T.n_tuple (prg_2 rfl T.n_range de_int (de_bin (opd_add rfl) (de_var 1) de_int))))) dss_nil)
    (dss_cons (ds_if (dt_cmp (opd_eq rfl hr.units) (de_bin opd_mod (de_cty cbd_int rfl T.n_int (by decide +kernel) (da_cons (de_call C__law_cell.ok (hr.mono (by decide)) rfl C__law_cell.m C__law_cell.kp C__law_cell.b (takes_of rfl rfl rfl rfl) (da_cons (de_var 0) (da_cons de_int da_nil))) da_nil)) de_int) de_int) (dss_one (ds_set 2 sc_law.nd (de_tupRd rfl rfl T.n_tuple (prc_3 rfl T.n_range (de_var 1) de_int pe_m1 (by decide) (by decide))))) dss_nil)
    (dss_cons (ds_set 3 sc_law.nd (de_call C__law_subsequences.ok (hr.mono (by decide)) rfl C__law_subsequences.m C__law_subsequences.kp C__law_subsequences.b (takes_of rfl rfl rfl rfl) (da_cons (de_var 2) da_nil)))
    (dss_cons (ds_set 4 sc_law.nd (de_cty (cbd_tuple rfl) rfl T.n_tuple (by decide +kernel) (da_cons (de_lc rfl sc_law.nd (pi_range1 rfl T.n_range (da_cons (de_var 1) da_nil)) tri_r1 (blkOk_by (own := [("at", 5)]) (by exact rfl)) (fun _ _ _ _ _ => (pg_name sc_law.nd rfl (by first | exact Or.inl rfl | exact Or.inr rfl))) (trg_name 5) (gl_name (by decide)) (fun _ _ _ _ _ => dts_nil) (fun _ _ _ _ _ => (de_cb (cbd_max rfl rfl) rfl T.n_max (by decide +kernel) (da_cons (de_lc rfl sc_law.nd (pi_seq (de_var 3)) (tri_seq ⟨rfl, rfl⟩) (blkOk_by (own := [("row", 6)]) (by exact rfl)) (fun _ _ _ _ _ => (pg_name sc_law.nd rfl (by first | exact Or.inl rfl | exact Or.inr rfl))) (trg_name 6) (gl_name (by decide)) (fun _ _ _ _ _ => (dts_one (dt_cmp (opd_eq rfl hr.units) (de_ix (ixd rfl) (de_var 6) (de_neg de_int)) (de_var 5)))) (fun _ _ _ _ _ => (de_cb (cbd_len rfl) rfl T.n_len (by decide +kernel) (da_cons (de_var 6) da_nil)))) da_nil)))) da_nil)))
    (dss_cons (ds_set 7 sc_law.nd (de_call C_colours.ok (hr.mono (by decide)) rfl C_colours.m C_colours.kp C_colours.b (takes_of rfl rfl rfl rfl) (da_cons (de_var 2) da_nil)))
    (dss_cons (ds_if (L2.PW.pt (dw_or (dt_not (dt_tru ⟨rfl, rfl⟩ (de_isTy ⟨rfl, rfl⟩ tab_tuple rfl T.n_isinstance rfl T.n_tuple (by decide +kernel) (de_var 7)))) (dw_or (dt_cmp opd_gt (de_cb (cbd_len rfl) rfl T.n_len (by decide +kernel) (da_cons (de_lc rfl sc_law.nd (pi_seq (de_var 7)) (tri_seq ⟨rfl, rfl⟩) (blkOk_by (own := [("rank", 8)]) (by exact rfl)) (fun _ _ _ _ _ => (pg_name sc_law.nd rfl (by first | exact Or.inl rfl | exact Or.inr rfl))) (trg_name 8) (gl_name (by decide)) (fun _ _ _ _ _ => (dts_one (dt_not (dt_tru ⟨rfl, rfl⟩ (de_call C__law_whole.ok (hr.mono (by decide)) rfl C__law_whole.m C__law_whole.kp C__law_whole.b takes0 (da_cons (de_var 8) da_nil)))))) (fun _ _ _ _ _ => (de_var 8))) da_nil)) de_int) (dw_or1 (dt_cmp (opd_ne rfl hr.units) (de_var 7) (de_var 4)))))) (dss_one (ds_ret de_bl)) dss_nil)
    (dss_cons (ds_set 9 sc_law.nd (de_cb (cbd_max rfl rfl) rfl T.n_max (by decide +kernel) (da_cons (de_bin (opd_add rfl) (de_lst (da_cons de_int da_nil)) (de_lc rfl sc_law.nd (pi_seq (de_var 3)) (tri_seq ⟨rfl, rfl⟩) (blkOk_by (own := [("row", 6)]) (by exact rfl)) (fun _ _ _ _ _ => (pg_name sc_law.nd rfl (by first | exact Or.inl rfl | exact Or.inr rfl))) (trg_name 6) (gl_name (by decide)) (fun _ _ _ _ _ => dts_nil) (fun _ _ _ _ _ => (de_cb (cbd_len rfl) rfl T.n_len (by decide +kernel) (da_cons (de_var 6) da_nil))))) da_nil)))
    (dss_cons (ds_set 10 sc_law.nd (de_call C_longest_decreasing.ok (hr.mono (by decide)) rfl C_longest_decreasing.m C_longest_decreasing.kp C_longest_decreasing.b (takes_of rfl rfl rfl rfl) (da_cons (de_var 2) da_nil)))
    (dss_cons (ds_set 11 sc_law.nd (de_call C_inversions.ok (hr.mono (by decide)) rfl C_inversions.m C_inversions.kp C_inversions.b (takes_of rfl rfl rfl rfl) (da_cons (de_var 2) da_nil)))
    (dss_cons (ds_if (L2.PW.pt (dw_or (dt_not (dt_tru ⟨rfl, rfl⟩ (de_call C__law_whole.ok (hr.mono (by decide)) rfl C__law_whole.m C__law_whole.kp C__law_whole.b (takes_of rfl rfl rfl rfl) (da_cons (de_var 10) da_nil)))) (dw_or (dt_cmp (opd_ne rfl hr.units) (de_var 10) (de_var 9)) (dw_or (dt_not (dt_tru ⟨rfl, rfl⟩ (de_call C__law_whole.ok (hr.mono (by decide)) rfl C__law_whole.m C__law_whole.kp C__law_whole.b (takes_of rfl rfl rfl rfl) (da_cons (de_var 11) da_nil)))) (dw_or1 (dt_cmp (opd_ne rfl hr.units) (de_var 11) (de_call C__law_pairs.ok (hr.mono (by decide)) rfl C__law_pairs.m C__law_pairs.kp C__law_pairs.b (takes_of rfl rfl rfl rfl) (da_cons (de_var 2) da_nil)))))))) (dss_one (ds_ret de_bl)) dss_nil)
    (dss_cons (ds_if (dt_not (dt_tru ⟨rfl, rfl⟩ (de_call C__law_lengths.ok (hr.mono (by decide)) rfl C__law_lengths.m C__law_lengths.kp C__law_lengths.b (takes_of rfl rfl rfl rfl) (da_cons (de_var 2) (da_cons (de_var 3) da_nil))))) (dss_one (ds_ret de_bl)) dss_nil)
    (dss_cons (ds_for (passes_of rfl) rfl (pi_range2 rfl T.n_range (da_cons de_int (da_cons de_int da_nil))) tri_r2 (pg_name sc_law.nd rfl (by first | exact Or.inl rfl | exact Or.inr rfl)) (trg_name 12) (dss_cons (ds_set 13 sc_law.nd (de_call C_is_good.ok (hr.mono (by decide)) rfl C_is_good.m C_is_good.kp C_is_good.b (takes_of rfl rfl rfl rfl) (da_cons (de_var 2) (da_cons (de_var 12) da_nil))))
    (dss_one (ds_if (L2.PW.pt (dw_or (dt_not (dt_tru ⟨rfl, rfl⟩ (de_isTy ⟨rfl, rfl⟩ tab_bool rfl T.n_isinstance rfl T.n_bool (by decide +kernel) (de_var 13)))) (dw_or1 (dt_cmp (opd_ne rfl hr.units) (de_var 13) (de_cmp opd_le (de_var 9) (de_var 12)))))) (dss_one (ds_ret de_bl)) dss_nil))))
    (dss_cons (ds_set 12 sc_law.nd (de_bin opd_sub (de_bin opd_mod (de_cty cbd_int rfl T.n_int (by decide +kernel) (da_cons (de_call C__law_cell.ok (hr.mono (by decide)) rfl C__law_cell.m C__law_cell.kp C__law_cell.b (takes_of rfl rfl rfl rfl) (da_cons (de_var 0) (da_cons de_int da_nil))) da_nil)) de_int) de_int))
    (dss_cons (ds_if (dt_cmp (opd_eq rfl hr.units) (de_bin opd_mod (de_cty cbd_int rfl T.n_int (by decide +kernel) (da_cons (de_bin opd_fdiv (de_call C__law_cell.ok (hr.mono (by decide)) rfl C__law_cell.m C__law_cell.kp C__law_cell.b (takes_of rfl rfl rfl rfl) (da_cons (de_var 0) (da_cons de_int da_nil))) de_int) da_nil)) de_int) de_int) (dss_one (ds_set 12 sc_law.nd (de_bin (opd_add rfl) de_int (de_bin opd_mod (de_cty cbd_int rfl T.n_int (by decide +kernel) (da_cons (de_bin opd_fdiv (de_call C__law_cell.ok (hr.mono (by decide)) rfl C__law_cell.m C__law_cell.kp C__law_cell.b (takes_of rfl rfl rfl rfl) (da_cons (de_var 0) (da_cons de_int da_nil))) de_int) da_nil)) (de_bin opd_pow de_int de_int))))) dss_nil)
    (dss_cons (ds_if (L2.PW.pt (dw_or (dt_cmp opd_lt (de_var 12) de_int) (dw_or1 (dt_cmp opd_gt (de_var 12) de_int)))) (dss_one (ds_if (dt_not (dt_tru ⟨rfl, rfl⟩ (de_call C__law_refused.ok (hr.mono (by decide)) rfl C__law_refused.m C__law_refused.kp C__law_refused.b (takes_of rfl rfl rfl rfl) (da_cons (de_var 2) (da_cons (de_var 12) da_nil))))) (dss_one (ds_ret de_bl)) dss_nil)) dss_nil)
    (dss_one (ds_ret (de_and (de_cmp (opd_eq rfl hr.units) (de_call C_colours.ok (hr.mono (by decide)) rfl C_colours.m C_colours.kp C_colours.b (takes_of rfl rfl rfl rfl) (da_cons (de_var 2) da_nil)) (de_var 4)) (de_one (de_cmp (opd_eq rfl hr.units) (de_call C_longest_decreasing.ok (hr.mono (by decide)) rfl C_longest_decreasing.m C_longest_decreasing.kp C_longest_decreasing.b (takes_of rfl rfl rfl rfl) (da_cons (de_var 2) da_nil)) (de_var 9)))))))))))))))))))))))), hm, Fu.kp, hb⟩
end
end DP

namespace DP
open PySem L2
theorem all_k20 {P : Program} {w : World} {K : PySem.W.Frag} {h : Heap} {mg : Str → Option Value} {fa : Addr} (X : K.In h) (G : h.Ns mainGlobals mg) (hfa : mg "law" = some (.ref fa))
    {aS CS CT CK f0 f1 f2 f3 f4 f5 f6 f7 f8 f9 f10 f11 f12 f13 f14 f15 : Addr} {od0 an0 od1 an1 od2 an2 od3 an3 od4 an4 od5 an5 od6 an6 od7 an7 od8 an8 od9 an9 od10 an10 od11 an11 od12 an12 od13 an13 od14 an14 od15 an15 : Option Addr} {sl0 sl1 sl2 sl3 sl4 sl5 sl6 sl7 sl8 sl9 sl10 sl11 sl12 sl13 sl14 sl15 slS : Array (Option Value)} {oc0 kV0 dc0 pm0 cd0 ct0 oc1 kV1 dc1 pm1 cd1 ct1 oc2 kV2 dc2 pm2 cd2 ct2 oc3 kV3 dc3 pm3 cd3 ct3 oc4 kV4 dc4 pm4 cd4 ct4 oc5 kV5 dc5 pm5 cd5 ct5 oc6 kV6 dc6 pm6 cd6 ct6 oc7 kV7 dc7 pm7 cd7 ct7 oc8 kV8 dc8 pm8 cd8 ct8 oc9 kV9 dc9 pm9 cd9 ct9 oc10 kV10 dc10 pm10 cd10 ct10 oc11 kV11 dc11 pm11 cd11 ct11 oc12 kV12 dc12 pm12 cd12 ct12 oc13 kV13 dc13 pm13 cd13 ct13 oc14 kV14 dc14 pm14 cd14 ct14 oc15 kV15 dc15 pm15 cd15 ct15 : Value} {tk1 tk2 tk3 nS : Nat}
    (b_abs : PySem.W.nsIn K mainGlobals "abs" = some none)
    (b_bool : PySem.W.nsIn K mainGlobals "bool" = some none)
    (b_enumerate : PySem.W.nsIn K mainGlobals "enumerate" = some none)
    (b_int : PySem.W.nsIn K mainGlobals "int" = some none)
    (b_isinstance : PySem.W.nsIn K mainGlobals "isinstance" = some none)
    (b_len : PySem.W.nsIn K mainGlobals "len" = some none)
    (b_list : PySem.W.nsIn K mainGlobals "list" = some none)
    (b_max : PySem.W.nsIn K mainGlobals "max" = some none)
    (b_range : PySem.W.nsIn K mainGlobals "range" = some none)
    (b_tuple : PySem.W.nsIn K mainGlobals "tuple" = some none)
    (gS : PySem.W.nsIn K mainGlobals "SIZES" = some (some (.ref aS)))
    (lS : K.lookup aS = some ⟨.type "tuple", none, .seq #[.int 1 tk1, .int 2 tk2, .int 3 tk3] nS, slS⟩)
    (gC : PySem.W.nsIn K mainGlobals "WrongSize" = some (some (.ref CS)))
    (gT : PySem.W.nsIn K mainGlobals "TableError" = some (some (.ref CT)))
    (gK : PySem.W.nsIn K mainGlobals "WrongKind" = some (some (.ref CK)))
    (qC : PySem.W.excIn K CS [.type "ValueError", .type "Exception", .type "BaseException", .type "object"] "ValueError.__new__" = true)
    (kC : PySem.W.keepIn K (.ref CS) = true)
    (bC : PySem.W.subIn K (.ref CS) (.type "BaseException") = some true)
    (tC : PySem.W.typeIn K (.ref CS) = some (.type "type"))
    (iC : PySem.W.isClsIn K CS = true)
    (tT : PySem.W.typeIn K (.ref CT) = some (.type "type"))
    (iT : PySem.W.isClsIn K CT = true)
    (tK : PySem.W.typeIn K (.ref CK) = some (.type "type"))
    (iK : PySem.W.isClsIn K CK = true)
    (sCC : PySem.W.subIn K (.ref CS) (.ref CS) = some true)
    (sCT : PySem.W.subIn K (.ref CS) (.ref CT) = some true)
    (sTC : PySem.W.subIn K (.ref CT) (.ref CS) = some false)
    (sCK : PySem.W.subIn K (.ref CS) (.ref CK) = some false)
    (e1 : PySem.W.findIn K (.ref CS) "__getattribute__" = some (some (.builtin "BaseException.__getattribute__")))
    (e2 : PySem.W.findIn K (.ref CS) "__getattr__" = some none)
    (e4 : PySem.W.hasDictIn K CS = true)
    (e5 : PySem.W.findIn K (.ref CS) "__class__" = some (some (.builtin "object.__class__")))
    (e6 : PySem.W.specialIn K (.builtin "object.__class__") "__get__" = some (some (.builtin "getset_descriptor.__get__")))
    (e7 : PySem.W.takesIn K (.builtin "object.__class__") = some true)
    (e8 : PySem.W.mroIn K CS (.type "object") = some true)
    (a0 : PySem.W.nsIn K mainGlobals "check_size" = some (some (.ref f0)))
    (l0 : K.lookup f0 = some ⟨oc0, od0, .func (PySem.W.fnOf "check_size" "check_size" (defArgs st_check_size) (defBody st_check_size) (defScope st_check_size) .none kV0 dc0 pm0 an0 cd0 ct0), sl0⟩)
    (c0 : PySem.W.codeIn K cd0 "check_size" = true)
    (k0 : PySem.W.keepIn K (.ref f0) = true)
    (a1 : PySem.W.nsIn K mainGlobals "inversions" = some (some (.ref f1)))
    (l1 : K.lookup f1 = some ⟨oc1, od1, .func (PySem.W.fnOf "inversions" "inversions" (defArgs st_inversions) (defBody st_inversions) (defScope st_inversions) .none kV1 dc1 pm1 an1 cd1 ct1), sl1⟩)
    (c1 : PySem.W.codeIn K cd1 "inversions" = true)
    (k1 : PySem.W.keepIn K (.ref f1) = true)
    (a2 : PySem.W.nsIn K mainGlobals "colours" = some (some (.ref f2)))
    (l2 : K.lookup f2 = some ⟨oc2, od2, .func (PySem.W.fnOf "colours" "colours" (defArgs st_colours) (defBody st_colours) (defScope st_colours) .none kV2 dc2 pm2 an2 cd2 ct2), sl2⟩)
    (c2 : PySem.W.codeIn K cd2 "colours" = true)
    (k2 : PySem.W.keepIn K (.ref f2) = true)
    (a3 : PySem.W.nsIn K mainGlobals "longest_decreasing" = some (some (.ref f3)))
    (l3 : K.lookup f3 = some ⟨oc3, od3, .func (PySem.W.fnOf "longest_decreasing" "longest_decreasing" (defArgs st_longest_decreasing) (defBody st_longest_decreasing) (defScope st_longest_decreasing) .none kV3 dc3 pm3 an3 cd3 ct3), sl3⟩)
    (c3 : PySem.W.codeIn K cd3 "longest_decreasing" = true)
    (k3 : PySem.W.keepIn K (.ref f3) = true)
    (a4 : PySem.W.nsIn K mainGlobals "decreasing_places" = some (some (.ref f4)))
    (l4 : K.lookup f4 = some ⟨oc4, od4, .func (PySem.W.fnOf "decreasing_places" "decreasing_places" (defArgs st_decreasing_places) (defBody st_decreasing_places) (defScope st_decreasing_places) .none kV4 dc4 pm4 an4 cd4 ct4), sl4⟩)
    (c4 : PySem.W.codeIn K cd4 "decreasing_places" = true)
    (k4 : PySem.W.keepIn K (.ref f4) = true)
    (a5 : PySem.W.nsIn K mainGlobals "is_good" = some (some (.ref f5)))
    (l5 : K.lookup f5 = some ⟨oc5, od5, .func (PySem.W.fnOf "is_good" "is_good" (defArgs st_is_good) (defBody st_is_good) (defScope st_is_good) .none kV5 dc5 pm5 an5 cd5 ct5), sl5⟩)
    (c5 : PySem.W.codeIn K cd5 "is_good" = true)
    (k5 : PySem.W.keepIn K (.ref f5) = true)
    (a6 : PySem.W.nsIn K mainGlobals "_law_cell" = some (some (.ref f6)))
    (l6 : K.lookup f6 = some ⟨oc6, od6, .func (PySem.W.fnOf "_law_cell" "_law_cell" (defArgs st__law_cell) (defBody st__law_cell) (defScope st__law_cell) .none kV6 dc6 pm6 an6 cd6 ct6), sl6⟩)
    (c6 : PySem.W.codeIn K cd6 "_law_cell" = true)
    (k6 : PySem.W.keepIn K (.ref f6) = true)
    (a7 : PySem.W.nsIn K mainGlobals "_law_number" = some (some (.ref f7)))
    (l7 : K.lookup f7 = some ⟨oc7, od7, .func (PySem.W.fnOf "_law_number" "_law_number" (defArgs st__law_number) (defBody st__law_number) (defScope st__law_number) .none kV7 dc7 pm7 an7 cd7 ct7), sl7⟩)
    (c7 : PySem.W.codeIn K cd7 "_law_number" = true)
    (k7 : PySem.W.keepIn K (.ref f7) = true)
    (a8 : PySem.W.nsIn K mainGlobals "_law_drawn" = some (some (.ref f8)))
    (l8 : K.lookup f8 = some ⟨oc8, od8, .func (PySem.W.fnOf "_law_drawn" "_law_drawn" (defArgs st__law_drawn) (defBody st__law_drawn) (defScope st__law_drawn) .none kV8 dc8 pm8 an8 cd8 ct8), sl8⟩)
    (c8 : PySem.W.codeIn K cd8 "_law_drawn" = true)
    (k8 : PySem.W.keepIn K (.ref f8) = true)
    (a9 : PySem.W.nsIn K mainGlobals "_law_whole" = some (some (.ref f9)))
    (l9 : K.lookup f9 = some ⟨oc9, od9, .func (PySem.W.fnOf "_law_whole" "_law_whole" (defArgs st__law_whole) (defBody st__law_whole) (defScope st__law_whole) .none kV9 dc9 pm9 an9 cd9 ct9), sl9⟩)
    (c9 : PySem.W.codeIn K cd9 "_law_whole" = true)
    (k9 : PySem.W.keepIn K (.ref f9) = true)
    (a10 : PySem.W.nsIn K mainGlobals "_law_pairs" = some (some (.ref f10)))
    (l10 : K.lookup f10 = some ⟨oc10, od10, .func (PySem.W.fnOf "_law_pairs" "_law_pairs" (defArgs st__law_pairs) (defBody st__law_pairs) (defScope st__law_pairs) .none kV10 dc10 pm10 an10 cd10 ct10), sl10⟩)
    (c10 : PySem.W.codeIn K cd10 "_law_pairs" = true)
    (k10 : PySem.W.keepIn K (.ref f10) = true)
    (a11 : PySem.W.nsIn K mainGlobals "_law_subsequences" = some (some (.ref f11)))
    (l11 : K.lookup f11 = some ⟨oc11, od11, .func (PySem.W.fnOf "_law_subsequences" "_law_subsequences" (defArgs st__law_subsequences) (defBody st__law_subsequences) (defScope st__law_subsequences) .none kV11 dc11 pm11 an11 cd11 ct11), sl11⟩)
    (c11 : PySem.W.codeIn K cd11 "_law_subsequences" = true)
    (k11 : PySem.W.keepIn K (.ref f11) = true)
    (a12 : PySem.W.nsIn K mainGlobals "_law_falls" = some (some (.ref f12)))
    (l12 : K.lookup f12 = some ⟨oc12, od12, .func (PySem.W.fnOf "_law_falls" "_law_falls" (defArgs st__law_falls) (defBody st__law_falls) (defScope st__law_falls) .none kV12 dc12 pm12 an12 cd12 ct12), sl12⟩)
    (c12 : PySem.W.codeIn K cd12 "_law_falls" = true)
    (k12 : PySem.W.keepIn K (.ref f12) = true)
    (a13 : PySem.W.nsIn K mainGlobals "_law_refused" = some (some (.ref f13)))
    (l13 : K.lookup f13 = some ⟨oc13, od13, .func (PySem.W.fnOf "_law_refused" "_law_refused" (defArgs st__law_refused) (defBody st__law_refused) (defScope st__law_refused) .none kV13 dc13 pm13 an13 cd13 ct13), sl13⟩)
    (c13 : PySem.W.codeIn K cd13 "_law_refused" = true)
    (k13 : PySem.W.keepIn K (.ref f13) = true)
    (a14 : PySem.W.nsIn K mainGlobals "_law_lengths" = some (some (.ref f14)))
    (l14 : K.lookup f14 = some ⟨oc14, od14, .func (PySem.W.fnOf "_law_lengths" "_law_lengths" (defArgs st__law_lengths) (defBody st__law_lengths) (defScope st__law_lengths) .none kV14 dc14 pm14 an14 cd14 ct14), sl14⟩)
    (c14 : PySem.W.codeIn K cd14 "_law_lengths" = true)
    (k14 : PySem.W.keepIn K (.ref f14) = true)
    (a15 : PySem.W.nsIn K mainGlobals "law" = some (some (.ref f15)))
    (l15 : K.lookup f15 = some ⟨oc15, od15, .func (PySem.W.fnOf "law" "law" (defArgs st_law) (defBody st_law) (defScope st_law) .none kV15 dc15 pm15 an15 cd15 ct15), sl15⟩)
    (c15 : PySem.W.codeIn K cd15 "law" = true)
    (k15 : PySem.W.keepIn K (.ref f15) = true)
    : ∃ fd : FuncData, (∀ (s : Shared) (v : Value), BindsTo s fd ⟨[v], []⟩ [("script", v)]) ∧ ∀ base : Heap, K.In base → base.Ns mainGlobals mg → FnOk P w K mg base (L2.CX P w) 5 fa fd ["script"] (spD ⟨K, mg, none⟩ m_law) := by
  have e := hfa.symm.trans (PySem.W.mg_of X G a15)
  cases e
  have neT : (Value.ref CS == Value.ref CT) = false := by
    refine Bool.eq_false_iff.mpr fun q =>
        ?_
    have e : CS = CT := Value.ref.inj (beq_iff_eq.mp q)
    rw [← e, sCC] at sTC
    cases sTC
  have neK : (Value.ref CS == Value.ref CK) = false := by
    refine Bool.eq_false_iff.mpr fun q =>
        ?_
    have e : CS = CK := Value.ref.inj (beq_iff_eq.mp q)
    rw [← e, sCC] at sCK
    cases sCK
  have xC := PySem.W.mg_of X G gC
  have ec : ExcC K CS := ⟨e1, e2, bC, e4, e5, e6, e7, e8⟩
  have T : Txt K mg aS CS CT CK := {
    n_abs := PySem.W.mg_none_of X G b_abs
    n_bool := PySem.W.mg_none_of X G b_bool
    n_enumerate := PySem.W.mg_none_of X G b_enumerate
    n_int := PySem.W.mg_none_of X G b_int
    n_isinstance := PySem.W.mg_none_of X G b_isinstance
    n_len := PySem.W.mg_none_of X G b_len
    n_list := PySem.W.mg_none_of X G b_list
    n_max := PySem.W.mg_none_of X G b_max
    n_range := PySem.W.mg_none_of X G b_range
    n_tuple := PySem.W.mg_none_of X G b_tuple
    mg_SIZES := PySem.W.mg_of X G gS
    rep_SIZES := fun F => ⟨aS, [.int 1, .int 2, .int 3], rfl, .inr ⟨_, _, _, lS, rfl, rfl, rfl, (by show 3 ≤ sizeLine; decide), .cons ⟨_, rfl⟩ (.cons ⟨_, rfl⟩ (.cons ⟨_, rfl⟩ .nil))⟩, _, _, rfl, rfl, _, _, rfl, rfl, _, _, rfl, rfl, rfl⟩
    x_WrongSize := xC
    q_WrongSize := qC
    k_WrongSize := kC
    b_WrongSize := bC
    t_WrongSize := tC
    sub_WrongSize := sub_only xC (exm_sub bC iC tC sCC)
    x_TableError := PySem.W.mg_of X G gT
    kit_TableError := kits_only xC ec (kit_sub iT tT sCT neT)
    x_WrongKind := PySem.W.mg_of X G gK
    kit_WrongKind := kits_only xC ec (kit_sub iK tK sCK neK) }
  have F0 := fun_mk (st := st_check_size) l0 c0 k0
  have F1 := fun_mk (st := st_inversions) l1 c1 k1
  have F2 := fun_mk (st := st_colours) l2 c2 k2
  have F3 := fun_mk (st := st_longest_decreasing) l3 c3 k3
  have F4 := fun_mk (st := st_decreasing_places) l4 c4 k4
  have F5 := fun_mk (st := st_is_good) l5 c5 k5
  have F6 := fun_mk (st := st__law_cell) l6 c6 k6
  have F7 := fun_mk (st := st__law_number) l7 c7 k7
  have F8 := fun_mk (st := st__law_drawn) l8 c8 k8
  have F9 := fun_mk (st := st__law_whole) l9 c9 k9
  have F10 := fun_mk (st := st__law_pairs) l10 c10 k10
  have F11 := fun_mk (st := st__law_subsequences) l11 c11 k11
  have F12 := fun_mk (st := st__law_falls) l12 c12 k12
  have F13 := fun_mk (st := st__law_refused) l13 c13 k13
  have F14 := fun_mk (st := st__law_lengths) l14 c14 k14
  have F15 := fun_mk (st := st_law) l15 c15 k15
  have b0 := F0.binds (ps := ["size"]) fun _ _ _ _ _ _ us hl => match us, hl with | [_], _ => rfl
  have b1 := F1.binds (ps := ["perm"]) fun _ _ _ _ _ _ us hl => match us, hl with | [_], _ => rfl
  have b2 := F2.binds (ps := ["perm"]) fun _ _ _ _ _ _ us hl => match us, hl with | [_], _ => rfl
  have b3 := F3.binds (ps := ["perm"]) fun _ _ _ _ _ _ us hl => match us, hl with | [_], _ => rfl
  have b4 := F4.binds (ps := ["perm", "length"]) fun _ _ _ _ _ _ us hl => match us, hl with | [_, _], _ => rfl
  have b5 := F5.binds (ps := ["perm", "size"]) fun _ _ _ _ _ _ us hl => match us, hl with | [_, _], _ => rfl
  have b6 := F6.binds (ps := ["script", "k"]) fun _ _ _ _ _ _ us hl => match us, hl with | [_, _], _ => rfl
  have b7 := F7.binds (ps := ["script", "k"]) fun _ _ _ _ _ _ us hl => match us, hl with | [_, _], _ => rfl
  have b8 := F8.binds (ps := ["number", "count"]) fun _ _ _ _ _ _ us hl => match us, hl with | [_, _], _ => rfl
  have b9 := F9.binds (ps := ["value"]) fun _ _ _ _ _ _ us hl => match us, hl with | [_], _ => rfl
  have b10 := F10.binds (ps := ["perm"]) fun _ _ _ _ _ _ us hl => match us, hl with | [_], _ => rfl
  have b11 := F11.binds (ps := ["perm"]) fun _ _ _ _ _ _ us hl => match us, hl with | [_], _ => rfl
  have b12 := F12.binds (ps := ["found", "perm", "length"]) fun _ _ _ _ _ _ us hl => match us, hl with | [_, _, _], _ => rfl
  have b13 := F13.binds (ps := ["perm", "size"]) fun _ _ _ _ _ _ us hl => match us, hl with | [_, _], _ => rfl
  have b14 := F14.binds (ps := ["perm", "rows"]) fun _ _ _ _ _ _ us hl => match us, hl with | [_, _], _ => rfl
  have b15 := F15.binds (ps := ["script"]) fun _ _ _ _ _ _ us hl => match us, hl with | [_], _ => rfl
  refine ⟨PySem.W.fnOf "law" "law" (defArgs st_law) (defBody st_law) (defScope st_law) .none kV15 dc15 pm15 an15 cd15 ct15, fun s v => .of_eq rfl, fun base _ _ => ?_⟩
  have q0 := c_check_size (P := P) (w := w) (base := base) T  F0 (PySem.W.mg_of X G a0) b0
  have q1 := c_inversions (P := P) (w := w) (base := base) T  F1 (PySem.W.mg_of X G a1) b1
  have q2 := c_colours (P := P) (w := w) (base := base) T  F2 (PySem.W.mg_of X G a2) b2
  have q3 := c_longest_decreasing (P := P) (w := w) (base := base) T q2 F3 (PySem.W.mg_of X G a3) b3
  have q4 := c_decreasing_places (P := P) (w := w) (base := base) T q2 F4 (PySem.W.mg_of X G a4) b4
  have q5 := c_is_good (P := P) (w := w) (base := base) T q0 q3 F5 (PySem.W.mg_of X G a5) b5
  have q6 := c__law_cell (P := P) (w := w) (base := base) T  F6 (PySem.W.mg_of X G a6) b6
  have q7 := c__law_number (P := P) (w := w) (base := base) T q6 F7 (PySem.W.mg_of X G a7) b7
  have q8 := c__law_drawn (P := P) (w := w) (base := base) T  F8 (PySem.W.mg_of X G a8) b8
  have q9 := c__law_whole (P := P) (w := w) (base := base) T  F9 (PySem.W.mg_of X G a9) b9
  have q10 := c__law_pairs (P := P) (w := w) (base := base) T  F10 (PySem.W.mg_of X G a10) b10
  have q11 := c__law_subsequences (P := P) (w := w) (base := base) T  F11 (PySem.W.mg_of X G a11) b11
  have q12 := c__law_falls (P := P) (w := w) (base := base) T q9 F12 (PySem.W.mg_of X G a12) b12
  have q13 := c__law_refused (P := P) (w := w) (base := base) T q5 F13 (PySem.W.mg_of X G a13) b13
  have q14 := c__law_lengths (P := P) (w := w) (base := base) T q4 q12 F14 (PySem.W.mg_of X G a14) b14
  have q15 := c_law (P := P) (w := w) (base := base) T q6 q8 q7 q11 q2 q9 q3 q1 q10 q14 q5 q13 F15 (PySem.W.mg_of X G a15) b15
  exact q15.ok
end DP

/-! DpFast: the same denotations, the environment laid out at each step: for the kernel's computing. -/
namespace DP
open PySem
noncomputable def withEnv {α : Type} (Γ : Env) : (Env → α) → α := List.rec (motive := fun _ => (Env → α) → α) (fun k => k []) (fun s _ ih k => ih fun r' => k (s :: r')) Γ
theorem withEnv_is {α : Type} : ∀ (Γ : Env) (k : Env → α), withEnv Γ k = k Γ
  | [], k => rfl
  | s :: r, k => withEnv_is r fun r' => k (s :: r')
noncomputable def getS {α : Type} (i : Nat) : List α → Option α := Nat.rec (motive := fun _ => List α → Option α) (fun Γ => List.casesOn Γ none fun s _ => some s) (fun _ ih Γ => List.casesOn Γ none fun _ r => ih r) i
theorem getS_is {α : Type} : ∀ (i : Nat) (Γ : List α), getS i Γ = Γ[i]?
  | 0, [] => rfl
  | 0, _ :: _ => rfl
  | _ + 1, [] => rfl
  | i + 1, _ :: r => (getS_is i r).trans (List.getElem?_cons_succ).symm
noncomputable def setS (i : Nat) (x : Slot) : Env → Env := Nat.rec (motive := fun _ => Env → Env) (fun Γ => List.casesOn Γ [] fun _ r => x :: r) (fun _ ih Γ => List.casesOn Γ [] fun s r => s :: ih r) i
theorem setS_is (x : Slot) : ∀ (i : Nat) (Γ : Env), setS i x Γ = Γ.set i x
  | 0, [] => rfl
  | 0, _ :: _ => rfl
  | _ + 1, [] => rfl
  | i + 1, s :: r => congrArg (s :: ·) (setS_is x i r)
noncomputable def eVN (i : Nat) : E := fun Γ => match getS i Γ with
  | some (.sh d) => .ok (.val d) Γ
  | some (.ow _) => .ok (.own i) Γ
  | _ => .stuck
theorem eVN_is (i : Nat) : eVN i = eV i := by
  funext Γ
  unfold eVN eV
  rw [getS_is]
  all_goals
    generalize Γ[i]? = g
    rcases g with _ | s
    · rfl
    · cases s <;> rfl
noncomputable def gNN (i : Nat) : Tg := fun d Γ => some (setS i (.sh d) Γ)
theorem gNN_is (i : Nat) : gNN i = gN i := by
  funext d Γ
  unfold gNN gN
  rw [setS_is]
noncomputable def setRN (i : Nat) (o : Opd) (Γ1 : Env) : SR := match o with
  | .val d => .next (setS i (.sh d) Γ1)
  | .fresh d => .next (setS i (.ow d) Γ1)
  | .own _ => .stuck
noncomputable def sSetN (i : Nat) (e : E) : S := fun Γ => (e Γ).toSB (setRN i)
theorem sSetN_is (i : Nat) (e : E) : sSetN i e = sSet i e := by
  funext Γ
  unfold sSetN sSet
  congr
  funext o Γ1
  unfold setRN setR
  cases o <;> first | rfl | (dsimp only; rw [setS_is])
noncomputable def wipeN : List Nat → Env → Env
  | [], Γ => Γ
  | v :: vs, Γ => setS v .no (wipeN vs Γ)
theorem wipeN_is (Γ : Env) : ∀ vs : List Nat, wipeN vs Γ = wipe Γ vs
  | [] => rfl
  | v :: vs => by unfold wipeN wipe; rw [setS_is, wipeN_is Γ vs]
noncomputable def ixDN (xs : List D) : Int → Option D
  | .ofNat n => getS n xs
  | .negSucc n => if n < xs.length then getS (xs.length - (n + 1)) xs else none
theorem ixDN_is (xs : List D) (i : Int) : ixDN xs i = ixD xs i := by
  unfold ixD
  cases i with
  | ofNat n =>
    unfold ixDN
    dsimp only
    rw [getS_is, if_pos (show (0 : Int) ≤ Int.ofNat n from Int.natCast_nonneg n)]
    by_cases h : (Int.ofNat n) < (xs.length : Int)
    · rw [if_pos h]; rfl
    · rw [if_neg h, List.getElem?_eq_none_iff]
      have : ¬ ((n : Int) < (xs.length : Int)) := h
      omega
  | negSucc n =>
    unfold ixDN
    dsimp only
    have h0 : ¬ (0 ≤ Int.negSucc n) := by omega
    rw [if_neg h0]
    by_cases h : n < xs.length
    · rw [if_pos h, getS_is, if_pos (by omega)]
      congr 1
      omega
    · rw [if_neg h,
        if_neg (by omega)]
noncomputable def ixFN : D → D → Option Opd
  | .lst xs, .int i => (ixDN xs i).map .val
  | .scr xs, .int i => (ixDN xs i).map .val
  | .tup xs, .int i => (ixDN xs i).map .val
  | _, _ => none
theorem ixFN_is : ixFN = ixF := by
  funext x y
  unfold ixFN ixF
  simp only [ixDN_is]
  all_goals (cases x <;> cases y <;> rfl)
noncomputable def sSeqN (a b : S) : S := fun Γ => match a Γ with
  | .next Γ1 => withEnv Γ1 b
  | r => r
theorem sSeqN_is (a b : S) : sSeqN a b = sSeq a b := by
  funext Γ
  unfold sSeqN sSeq
  cases a Γ <;> first | rfl | exact withEnv_is _ _
noncomputable def forLoopN (tg : Tg) (b : S) : List D → Env → SR
  | [], Γ => .next Γ
  | d :: r, Γ => match tg d Γ with
    | none => .stuck
    | some Γ1 => match b Γ1 with
      | .next Γ2 => withEnv Γ2 (forLoopN tg b r)
      | .cont Γ2 => withEnv Γ2 (forLoopN tg b r)
      | .brk Γ2 => .next Γ2
      | .ret d => .ret d
      | .exc c fs Γ2 => .exc c fs Γ2
      | .stuck => .stuck
theorem forLoopN_is (tg : Tg) (b : S) : ∀ (xs : List D) (Γ : Env), forLoopN tg b xs Γ = forLoop tg b xs Γ
  | [], Γ => rfl
  | d :: r, Γ => by
    unfold forLoopN forLoop
    cases tg d Γ with
    | none => rfl
    | some Γ1 =>
      dsimp only
      cases b Γ1 with
      | next Γ2 => dsimp only; rw [withEnv_is, forLoopN_is tg b r]
      | cont Γ2 => dsimp only; rw [withEnv_is, forLoopN_is tg b r]
      | _ => rfl
noncomputable def sForN (it : It) (tg : Tg) (b : S) : S := fun Γ => (it Γ).toSB fun xs Γ1 => forLoopN tg b xs Γ1
theorem sForN_is (it : It) (tg : Tg) (b : S) : sForN it tg b = sFor it tg b := by
  funext Γ
  unfold sForN sFor
  congr
  funext xs Γ1
  exact forLoopN_is tg b xs Γ1
noncomputable def lcN (vs : List Nat) (tg : Tg) (c : T) (e : E) : List D → Env → Option (List D × Env)
  | [], Γ => some ([], Γ)
  | d :: r, Γ => match tg d Γ with
    | none => none
    | some Γ1 => match c Γ1 with
      | .ok true Γ2 => match e Γ2 with
        | .ok o Γ3 => match o.str with
          | some x => match withEnv (wipeN vs Γ3) (lcN vs tg c e r) with
            | some (l, Γ4) => some (x :: l, Γ4)
            | none => none
          | none => none
        | _ => none
      | .ok false Γ2 => withEnv (wipeN vs Γ2) (lcN vs tg c e r)
      | _ => none
theorem lcN_is (vs : List Nat) (tg : Tg) (c : T) (e : E) : ∀ (xs : List D) (Γ : Env) (acc : List D), acc.length + xs.length ≤ 1000000 → lcLoop vs tg c e xs Γ acc = match lcN vs tg c e xs Γ with
    | some (l, Γ4) => some (acc ++ l, Γ4)
    | none => none
  | [], Γ, acc, _ => by
    unfold lcLoop lcN
    show some (acc, Γ) = some (acc ++ [], Γ)
    rw [List.append_nil]
  | d :: r, Γ, acc, h => by
    have h : acc.length + (r.length + 1) ≤ 1000000 := h
    unfold lcLoop lcN
    cases tg d Γ with
    | none => rfl
    | some Γ1 =>
      dsimp only
      cases c Γ1 with
      | exc _ _ _ => rfl
      | stuck => rfl
      | ok k Γ2 =>
        cases k with
        | false =>
          dsimp only
          rw [withEnv_is, wipeN_is]
          exact lcN_is vs tg c e r _ acc (by omega)
        | true =>
          dsimp only
          cases e Γ2 with
          | exc _ _ _ => rfl
          | stuck => rfl
          | ok o Γ3 =>
            dsimp only
            cases o.str with
            | none => rfl
            | some x =>
              dsimp only
              rw [withEnv_is, wipeN_is, if_pos (by omega), lcN_is vs tg c e r _ (acc ++ [x]) (by rw [List.length_append]; show acc.length + 1 + r.length ≤ _; omega)]
              cases lcN vs tg c e r (wipe Γ3 vs) with
              | none => rfl
              | some z =>
                obtain ⟨l, Γ4⟩ := z
                dsimp only
                rw [List.append_assoc]
                rfl
noncomputable def eLcN (vs : List Nat) (it : It) (tg : Tg) (c : T) (e : E) : E := fun Γ =>
  (it Γ).bind fun xs Γ1 => if xs.length ≤ 1000000 then (match withEnv (wipeN vs Γ1) (lcN vs tg c e xs) with
    | some (ds, Γ2) => .ok (.fresh (.lst ds)) Γ2
    | none => .stuck) else (match lcLoop vs tg c e xs (wipe Γ1 vs) [] with
    | some (ds, Γ2) => .ok (.fresh (.lst ds)) Γ2
    | none => .stuck)
theorem eLcN_is (vs : List Nat) (it : It) (tg : Tg) (c : T) (e : E) : eLcN vs it tg c e = eLc vs it tg c e := by
  funext Γ
  unfold eLcN eLc
  congr
  funext xs Γ1
  by_cases h : xs.length ≤ 1000000
  · rw [if_pos h, withEnv_is, wipeN_is, lcN_is vs tg c e xs _ [] (by simpa using h)]
    cases lcN vs tg c e xs (wipe Γ1 vs) with
    | none => rfl
    | some z => rfl
  · rw [if_neg h]
    all_goals (cases lcLoop vs tg c e xs (wipe Γ1 vs) [] <;> rfl)
def eqFN : D → D → Option Opd
  | .int i, .int j => ov (.bl (decide (i = j)))
  | x, y => eqF x y
theorem eqFN_is : eqFN = eqF := by
  funext x y
  unfold eqFN
  split
  · unfold eqF
    simp only [plain, eqD, Bool.and_self, if_true]
    rfl
  · rfl
def neFN : D → D → Option Opd
  | .int i, .int j => ov (.bl (!decide (i = j)))
  | x, y => neF x y
theorem neFN_is : neFN = neF := by
  funext x y
  unfold neFN
  split
  · unfold neF
    simp only [plain, eqD, Bool.and_self, if_true]
    rfl
  · rfl
end DP

/-! DpEv: what denotations come to, rule by rule. -/
namespace DP
open PySem
def EV (e : E) (Γ : Env) (d : D) : Prop := e Γ = .ok (.val d) Γ
def AV (t : As) (Γ : Env) (ds : List D) : Prop := t Γ = .ok (ds.map Opd.val) Γ
def TV (c : T) (Γ : Env) (b : Bool) : Prop := c Γ = .ok b Γ
def SV (s : S) (Γ Γ' : Env) : Prop := s Γ = .next Γ'
section
variable {Γ Γ' Γ'' : Env} {a b : E} {t : As} {x y z d : D} {ds : List D} {c c2 : T} {s s2 : S} {f : D → D → Option Opd} {k k2 : Bool}
theorem ev_V {i : Nat} (h : Γ[i]? = some (.sh d)) : EV (eV i) Γ d := by
  unfold EV eV
  rw [h]
theorem ev_C : EV (eC d) Γ d := rfl
theorem ev_bin (ha : EV a Γ x) (hb : EV b Γ y) (h : f x y = some (.val z)) : EV (eBin f a b) Γ z := by
  unfold EV at ha hb ⊢
  unfold eBin
  rw [ha]
  show (b Γ).bind _ = _
  rw [hb]
  show opt (f x y) Γ = _
  rw [h]
  rfl
theorem ev_un {g : D → Option Opd} (ha : EV a Γ x) (h : g x = some (.val z)) : EV (eUn g a) Γ z := by
  unfold EV at ha ⊢
  unfold eUn
  rw [ha]
  show opt (g x) Γ = _
  rw [h]
  rfl
theorem av_nil : AV aNil Γ [] := rfl
theorem av_cons (ha : EV a Γ x) (ht : AV t Γ ds) : AV (aCons a t) Γ (x :: ds) := by
  unfold EV at ha
  unfold AV at ht ⊢
  unfold aCons
  rw [ha]
  show (t Γ).bind _ = _
  rw [ht]
  rfl
theorem gets_val : ∀ ds : List D, gets Γ (ds.map Opd.val) = some ds
  | [] => rfl
  | d :: r => by
    show (match Opd.get Γ (.val d), gets Γ (r.map Opd.val) with | some d, some ds => some (d :: ds) | _, _ => none) = _
    rw [gets_val r]
    rfl
theorem any_val : ∀ ds : List D, (ds.map Opd.val).any Opd.isOwn = false
  | [] => rfl
  | d :: r => any_val r
theorem ev_cb {g : List D → Option Opd} (ht : AV t Γ ds) (h : g ds = some (.val z)) : EV (eCB g t) Γ z := by
  unfold AV at ht
  unfold EV eCB
  rw [ht]
  show (match gets Γ (ds.map Opd.val) with | some ds => opt (g ds) Γ | none => .stuck) = _
  rw [gets_val]
  show opt (g ds) Γ = _
  rw [h]
  rfl
theorem ev_call {g : Fn} (ht : AV t Γ ds) (h : g ds = .ok z) : EV (eCall g t) Γ z := by
  unfold AV at ht
  unfold EV eCall
  rw [ht]
  show callR g (ds.map Opd.val) Γ = _
  unfold callR
  rw [gets_val]
  dsimp only
  rw [h]
  dsimp only
  rw [any_val]
  rfl
theorem call_exc {g : Fn} {cn : Str} (ht : AV t Γ ds) (h : g ds = .exc cn []) : eCall g t Γ = .exc cn [] Γ := by
  unfold AV at ht
  unfold eCall
  rw [ht]
  show callR g (ds.map Opd.val) Γ = _
  unfold callR
  rw [gets_val]
  dsimp only
  rw [h]
  rfl
theorem ev_and (ha : EV a Γ (.bl k)) (hb : k = true → EV b Γ (.bl k2)) : EV (eAnd a b) Γ (.bl (k && k2)) := by
  unfold EV at ha ⊢
  unfold eAnd
  rw [ha]
  cases k with
  | true => exact hb rfl
  | false => rfl
theorem tv_e (ha : EV a Γ (.bl k)) : TV (tE a) Γ k := by
  unfold EV at ha
  unfold TV tE
  rw [ha]
  rfl
theorem tv_tru (ha : EV a Γ x) (h : truth x = some k) : TV (tTru a) Γ k := by
  unfold EV at ha
  unfold TV tTru
  rw [ha]
  show opt (truth x) Γ = _
  rw [h]
  rfl
theorem tv_not (h : TV c Γ k) : TV (tNot c) Γ (!k) := by
  unfold TV at h ⊢
  unfold tNot
  rw [h]
  rfl
theorem tv_or (h : TV c Γ k) (h2 : k = false → TV c2 Γ k2) : TV (tOr c c2) Γ (k || k2) := by
  unfold TV at h ⊢
  unfold tOr
  rw [h]
  cases k with
  | true => rfl
  | false => exact h2 rfl
theorem tv_and (h : TV c Γ k) (h2 : k = true → TV c2 Γ k2) : TV (tAnd c c2) Γ (k && k2) := by
  unfold TV at h ⊢
  unfold tAnd
  rw [h]
  cases k with
  | true => exact h2 rfl
  | false => rfl
theorem sv_set {i : Nat} (ha : EV a Γ x) : SV (sSet i a) Γ (Γ.set i (.sh x)) := by
  unfold EV at ha
  unfold SV sSet
  rw [ha]
  rfl
theorem sv_seq (h : SV s Γ Γ') {r : SR} (h2 : s2 Γ' = r) : sSeq s s2 Γ = r := by
  unfold SV at h
  unfold sSeq
  rw [h]
  exact h2
theorem sv_if (h : TV c Γ k) {r : SR} (h2 : (if k = true then s Γ else s2 Γ) = r) : sIf c s s2 Γ = r := by
  unfold TV at h
  unfold sIf
  rw [h]
  exact h2
theorem sv_then (h : TV c Γ true) {r : SR} (h2 : s Γ = r) : sIf c s s2 Γ = r := sv_if h (by rw [if_pos rfl]; exact h2)
theorem sv_else (h : TV c Γ false) {r : SR} (h2 : s2 Γ = r) : sIf c s s2 Γ = r := sv_if h (by rw [if_neg Bool.false_ne_true]; exact h2)
theorem s_ret (ha : EV a Γ x) : sRet a Γ = .ret x := by
  unfold EV at ha
  unfold sRet
  rw [ha]
  rfl
theorem s_drop (ha : EV a Γ x) : SV (sDrop a) Γ Γ := by
  unfold EV at ha
  unfold SV sDrop
  rw [ha]
  rfl
theorem drop_exc {cn : Str} (ha : a Γ = .exc cn [] Γ) : sDrop a Γ = .exc cn [] Γ := by
  unfold sDrop
  rw [ha]
  rfl
theorem seq_exc {cn : Str} (h : s Γ = .exc cn [] Γ) : sSeq s s2 Γ = .exc cn [] Γ := by
  unfold sSeq
  rw [h]
end
theorem run_ret {np n : Nat} {b : S} {ds : List D} {d : D} (hl : ds.length = np) (h : b (startEnv n ds) = .ret d) : runDef np n b ds = .ok d := by
  unfold runDef
  rw [if_pos hl, h]
theorem run_exc {np n : Nat} {b : S} {ds : List D} {c : Str} {Γ : Env} (hl : ds.length = np) (h : b (startEnv n ds) = .exc c [] Γ) : runDef np n b ds = .exc c [] := by
  unfold runDef
  rw [if_pos hl, h]
theorem strs_val : ∀ ds : List D, strsD (ds.map Opd.val) = some ds
  | [] => rfl
  | d :: r => by
    show (match Opd.str (.val d), strsD (r.map Opd.val) with | some d, some ds => some (d :: ds) | _, _ => none) = _
    rw [strs_val r]
    rfl
theorem ev_mut {f : D → List D → Option (D × D)} {i : Nat} {t : As} {Γ Γ1 : Env} {d0 d d' v : D} {ds : List D} (h0 : Γ[i]? = some (.ow d0)) (ht : t Γ = .ok (ds.map Opd.val) Γ1) (h1 : Γ1[i]? = some (.ow d)) (hf : f d ds = some (v, d')) : eMut f i t Γ = .ok (.val v) (Γ1.set i (.ow d')) := by
  unfold eMut
  rw [h0, ht]
  show (match strsD (ds.map Opd.val), Γ1[i]? with
    | some ds, some (.ow d) => match f d ds with
      | some (v, d') => R.ok (Opd.val v) (Γ1.set i (.ow d'))
      | none => .stuck
    | _, _ => .stuck) = _
  rw [strs_val, h1]
  dsimp only
  rw [hf]
theorem ev_rg {f : Int → Int → Option Opd} {a b : E} {Γ : Env} {i j : Int} {o : Opd} (ha : EV a Γ (.int i)) (hb : EV b Γ (.int j)) (h : f i j = some o) : eRg f a b Γ = .ok o Γ := by
  unfold EV at ha hb
  unfold eRg
  rw [ha]
  show (b Γ).bind _ = _
  rw [hb]
  show opt (f i j) Γ = _
  rw [h]
  rfl
theorem r1_ok {a : E} {Γ : Env} {j : Int} (ha : EV a Γ (.int j)) (h : inLine j = true) : iR1 a Γ = .ok (zInts 0 j.toNat) Γ := by
  unfold EV at ha
  unfold iR1
  rw [ha]
  show (if inLine j = true then R.ok (zInts 0 j.toNat) Γ else .stuck) = _
  rw [if_pos h]
theorem set_fresh {e : E} {i : Nat} {Γ Γ1 : Env} {d : D} (h : e Γ = .ok (.fresh d) Γ1) : sSet i e Γ = .next (Γ1.set i (.ow d)) := by
  unfold sSet
  rw [h]
  rfl
theorem for_ok {it : It} {tg : Tg} {b : S} {Γ Γ1 : Env} {xs : List D} (h : it Γ = .ok xs Γ1) : sFor it tg b Γ = forLoop tg b xs Γ1 := by
  unfold sFor
  rw [h]
  rfl
/-! plain data -/
theorem eqDs_ints : ∀ l : List Int, eqDs (l.map D.int) (l.map D.int) = true
  | [] => by simp [eqDs]
  | i :: r => by
    show eqDs (D.int i :: r.map D.int) (D.int i :: r.map D.int) = true
    unfold eqDs
    rw [eqDs_ints r]
    simp [eqD]
theorem plains_ints (n : Nat) : ∀ l : List Int, plains n (l.map D.int) = true
  | [] => by simp [plains]
  | i :: r => by
    show plains n (D.int i :: r.map D.int) = true
    unfold plains
    rw [plains_ints n r]
    simp [plain]
theorem eqF_ints (l : List Int) : eqF (.tup (l.map D.int)) (.tup (l.map D.int)) = some (.val (.bl true)) := by
  unfold eqF
  have h1 : plain 20 (.tup (l.map D.int)) = true := by
    show plain (19 + 1) (.tup (l.map D.int)) = true
    unfold plain
    exact plains_ints 19 l
  have h2 : eqD (.tup (l.map D.int)) (.tup (l.map D.int)) = true := by
    unfold eqD
    exact eqDs_ints l
  rw [h1, h2]
  rfl
theorem eqF_int (i j : Int) : eqF (.int i) (.int j) = some (.val (.bl (decide (i = j)))) := by
  unfold eqF
  simp only [plain, eqD, Bool.and_self, if_true]
  rfl
end DP

/-! DpPure: comprehensions whose test and element are known by the member alone. -/
namespace DP
open PySem
theorem lc_pure {j : Nat} {c : T} {e : E} {Γ : Env} (pc : D → Bool) (pf : D → D) (hΓ : Γ.set j .no = Γ) : ∀ (xs acc : List D), (∀ d ∈ xs, TV c (Γ.set j (.sh d)) (pc d)) → (∀ d ∈ xs, pc d = true → ∃ o, e (Γ.set j (.sh d)) = .ok o (Γ.set j (.sh d)) ∧ o.str = some (pf d)) →
    acc.length + xs.length ≤ 1000000 → lcLoop [j] (gN j) c e xs Γ acc = some (acc ++ (xs.filter pc).map pf, Γ)
  | [], acc, _, _, _ => by
    show some (acc, Γ) = some (acc ++ [], Γ)
    rw [List.append_nil]
  | d :: r, acc, hc, he, hl => by
    have hl : acc.length + (r.length + 1) ≤ 1000000 := hl
    have hw : wipe (Γ.set j (.sh d)) [j] = Γ := by
      show (Γ.set j (.sh d)).set j .no = Γ
      rw [List.set_set, hΓ]
    have h1 : c (Γ.set j (.sh d)) = .ok (pc d) (Γ.set j (.sh d)) := hc d List.mem_cons_self
    unfold lcLoop
    show (match c (Γ.set j (.sh d)) with
      | .ok true Γ2 => (match e Γ2 with
        | .ok o Γ3 => (match o.str with
          | some x => if acc.length < 1000000 then lcLoop [j] (gN j) c e r (wipe Γ3 [j]) (acc ++ [x]) else none
          | none => none)
        | _ => none)
      | .ok false Γ2 => lcLoop [j] (gN j) c e r (wipe Γ2 [j]) acc
      | _ => none) = _
    rw [h1]
    cases hp : pc d with
    | false =>
      dsimp only
      rw [hw, lc_pure pc pf hΓ r acc (fun d hd => hc d (List.mem_cons_of_mem _ hd)) (fun d hd => he d (List.mem_cons_of_mem _ hd)) (by omega), List.filter_cons_of_neg (by rw [hp]; exact Bool.false_ne_true)]
    | true =>
      obtain ⟨o, h2, h3⟩ := he d List.mem_cons_self hp
      dsimp only
      rw [h2]
      dsimp only
      rw [h3]
      dsimp only
      rw [if_pos (by omega), hw, lc_pure pc pf hΓ r (acc ++ [pf d]) (fun d hd => hc d (List.mem_cons_of_mem _ hd)) (fun d hd => he d (List.mem_cons_of_mem _ hd)) (by rw [List.length_append]; show acc.length + 1 + r.length ≤ _; omega), List.filter_cons_of_pos hp, List.map_cons, List.append_assoc]
      rfl
theorem elc_pure {i j : Nat} {c : T} {e : E} {Γ : Env} {xs : List D} (pc : D → Bool) (pf : D → D) (hi : Γ[i]? = some (.sh (.lst xs))) (hl : xs.length ≤ 1000000) (hc : ∀ d ∈ xs, TV c ((Γ.set j .no).set j (.sh d)) (pc d)) (he : ∀ d ∈ xs, pc d = true → ∃ o, e ((Γ.set j .no).set j (.sh d)) = .ok o ((Γ.set j .no).set j (.sh d)) ∧ o.str = some (pf d)) :
    eLc [j] (iE (eV i)) (gN j) c e Γ = .ok (.fresh (.lst ((xs.filter pc).map pf))) (Γ.set j .no) := by
  have h1 : iE (eV i) Γ = .ok xs Γ := by
    have := ev_V (Γ := Γ) hi
    unfold EV at this
    unfold iE
    rw [this]
    rfl
  unfold eLc
  rw [h1]
  show (match lcLoop [j] (gN j) c e xs (wipe Γ [j]) [] with | some (ds, Γ2) => R.ok (Opd.fresh (.lst ds)) Γ2 | none => .stuck) = _
  have hw : wipe Γ [j] = Γ.set j .no := rfl
  rw [hw, lc_pure pc pf (by rw [List.set_set]) xs [] hc he (by simpa using hl)]
  rfl
/-! rows of one length -/
def isLst : D → Bool
  | .lst _ => true
  | _ => false
noncomputable def lenIs (L : Int) : D → Bool := fun d => match d with
  | .lst xs => decide (((xs.length : Nat) : Int) = L)
  | _ => false
def origA : E := DP.eLc [4] (DP.iE (DP.eV 1)) (DP.gN 4) (DP.tE (DP.eBin DP.eqF (DP.eCB DP.lenF (DP.aCons (DP.eV 4) DP.aNil)) (DP.eV 2))) (DP.eV 4)
noncomputable def fastA : E := fun Γ => match Γ with
  | [a0, .sh (.lst rows), .sh (.int L), a3, a4] => if (rows.all isLst && decide (rows.length ≤ 1000000)) = true then .ok (.fresh (.lst (rows.filter (lenIs L)))) [a0, .sh (.lst rows), .sh (.int L), a3, .no] else origA [a0, .sh (.lst rows), .sh (.int L), a3, a4]
  | Γ => origA Γ
theorem fastA_is : fastA = origA := by
  funext Γ
  unfold fastA
  split
  · rename_i a0 rows L a3 a4
    split
    · rename_i h
      rw [Bool.and_eq_true, decide_eq_true_eq, List.all_eq_true] at h
      have := elc_pure (i := 1) (j := 4) (c := DP.tE (DP.eBin DP.eqF (DP.eCB DP.lenF (DP.aCons (DP.eV 4) DP.aNil)) (DP.eV 2))) (e := DP.eV 4) (Γ := [a0, .sh (.lst rows), .sh (.int L), a3, a4]) (lenIs L) id rfl h.2 (fun d hd => by
        have hd := h.1 d hd
        cases d with
        | lst xs => exact tv_e (ev_bin (ev_cb (av_cons (ev_V rfl) av_nil) (show lenF [.lst xs] = some (.val (.int (xs.length : Nat))) from rfl)) (ev_V rfl) (eqF_int _ _))
        | _ => cases hd) (fun d hd _ => ⟨.val d, ev_V rfl, rfl⟩)
      rw [List.map_id] at this
      exact this.symm
    · rfl
  · rfl
/-! the lengths of the rows that end at a place -/
noncomputable def lastIs (k : Int) : D → Bool := fun d => match d with
  | .lst xs => (match ixDN xs (-1) with
    | some (.int i) => decide (i = k)
    | _ => false)
  | _ => false
noncomputable def lastOk : D → Bool := fun d => match d with
  | .lst xs => (match ixDN xs (-1) with
    | some (.int i) => true
    | _ => false)
  | _ => false
noncomputable def lenOf : D → D := fun d => match d with
  | .lst xs => .int (xs.length : Nat)
  | d => d
def origB : E := DP.eLc [6] (DP.iE (DP.eV 3)) (DP.gN 6) (DP.tE (DP.eBin DP.eqF (DP.eBin DP.ixF (DP.eV 6) (DP.eUn DP.negF (DP.eC (.int 1)))) (DP.eV 5))) (DP.eCB DP.lenF (DP.aCons (DP.eV 6) DP.aNil))
noncomputable def fastB : E := fun Γ => match Γ with
  | [a0, a1, a2, .sh (.lst rows), a4, .sh (.int k), a6, a7, a8, a9, a10, a11, a12, a13] => if (rows.all lastOk && decide (rows.length ≤ 1000000)) = true then .ok (.fresh (.lst ((rows.filter (lastIs k)).map lenOf))) [a0, a1, a2, .sh (.lst rows), a4, .sh (.int k), .no, a7, a8, a9, a10, a11, a12, a13] else origB [a0, a1, a2, .sh (.lst rows), a4, .sh (.int k), a6, a7, a8, a9, a10, a11, a12, a13]
  | Γ => origB Γ
theorem fastB_is : fastB = origB := by
  funext Γ
  unfold fastB
  split
  · rename_i a0 a1 a2 rows a4 k a6 a7 a8 a9 a10 a11 a12 a13
    split
    · rename_i h
      rw [Bool.and_eq_true, decide_eq_true_eq, List.all_eq_true] at h
      have key : ∀ d ∈ rows, ∃ (xs : List D) (i : Int), d = .lst xs ∧ ixDN xs (-1) = some (.int i) := fun d hd => by
        have hd := h.1 d hd
        cases d with
        | lst xs =>
          have hd : (match ixDN xs (-1) with | some (.int i) => true | _ => false) = true := hd
          split at hd
          · rename_i i e
            exact ⟨xs, i, rfl, e⟩
          · cases hd
        | _ => cases hd
      have := elc_pure (i := 3) (j := 6) (c := DP.tE (DP.eBin DP.eqF (DP.eBin DP.ixF (DP.eV 6) (DP.eUn DP.negF (DP.eC (.int 1)))) (DP.eV 5))) (e := DP.eCB DP.lenF (DP.aCons (DP.eV 6) DP.aNil)) (Γ := [a0, a1, a2, .sh (.lst rows), a4, .sh (.int k), a6, a7, a8, a9, a10, a11, a12, a13]) (lastIs k) lenOf rfl h.2 (fun d hd => by
        obtain ⟨xs, i, rfl, e⟩ := key d hd
        have e2 : ixF (.lst xs) (.int (-1)) = some (.val (.int i)) := by
          rw [← ixFN_is]
          show (ixDN xs (-1)).map Opd.val = _
          rw [e]
          rfl
        have e3 : lastIs k (.lst xs) = decide (i = k) := by
          show (match ixDN xs (-1) with | some (.int i) => decide (i = k) | _ => false) = _
          rw [e]
        rw [e3]
        exact tv_e (ev_bin (ev_bin (ev_V rfl) (ev_un ev_C rfl) e2) (ev_V rfl) (eqF_int _ _))) (fun d hd _ => by
        obtain ⟨xs, i, rfl, e⟩ := key d hd
        exact ⟨.val (.int (xs.length : Nat)), ev_cb (av_cons (ev_V rfl) av_nil) rfl, rfl⟩)
      exact this.symm
    · rfl
  · rfl
end DP

namespace DP
open PySem
noncomputable def n_check_size (col : DP.Fn) : DP.Fn := DP.runDef 1 1 (DP.sIf (DP.tE (DP.eBin DP.notInF (DP.eVN 0) (DP.eC g_SIZES))) (DP.sRaise "WrongSize") DP.sNext)
theorem ne_check_size : n_check_size m_colours = m_check_size := by
  unfold n_check_size m_check_size d_check_size
  simp only [sSeqN_is, sForN_is, eLcN_is, eqFN_is, neFN_is, eVN_is, gNN_is, sSetN_is, ixFN_is, fastA_is, fastB_is, origA, origB]
noncomputable def n_inversions (col : DP.Fn) : DP.Fn := DP.runDef 1 5 (DP.sSeqN (DP.sSetN 1 (DP.eC (.int 0)))
    (DP.sSeqN (DP.sForN (DP.iEnum (DP.eVN 0)) (DP.gT [2, 3]) (DP.sSetN 1 (DP.eBin DP.addF (DP.eVN 1) (DP.eCB DP.lenF (DP.aCons (DP.eLcN [4] (DP.iE (DP.eSl DP.slF (DP.eVN 0) (DP.pE (DP.eBin DP.addF (DP.eVN 2) (DP.eC (.int 1)))) DP.pNo)) (DP.gNN 4) (DP.tE (DP.eBin DP.ltF (DP.eVN 4) (DP.eVN 3))) (DP.eVN 4)) DP.aNil)))))
    (DP.sRet (DP.eVN 1))))
theorem ne_inversions : n_inversions m_colours = m_inversions := by
  unfold n_inversions m_inversions d_inversions
  simp only [sSeqN_is, sForN_is, eLcN_is, eqFN_is, neFN_is, eVN_is, gNN_is, sSetN_is, ixFN_is, fastA_is, fastB_is, origA, origB, ne_check_size]
noncomputable def n_colours (col : DP.Fn) : DP.Fn := DP.runDef 1 6 (DP.sSeqN (DP.sSetN 1 (DP.eLst DP.aNil))
    (DP.sSeqN (DP.sForN (DP.iEnum (DP.eVN 0)) (DP.gT [2, 3]) (DP.sSeqN (DP.sSetN 4 (DP.eLcN [5] (DP.iR1 (DP.eVN 2)) (DP.gNN 5) (DP.tE (DP.eBin DP.gtF (DP.eBin DP.ixFN (DP.eVN 0) (DP.eVN 5)) (DP.eVN 3))) (DP.eBin DP.ixFN (DP.eVN 1) (DP.eVN 5))))
    (DP.sDrop (DP.eMut DP.appendM 1 (DP.aCons (DP.eBin DP.addF (DP.eC (.int 1)) (DP.eBin DP.maxDF (DP.eVN 4) (DP.eC (.int 0)))) DP.aNil)))))
    (DP.sRet (DP.eCB DP.tupleF (DP.aCons (DP.eVN 1) DP.aNil)))))
theorem ne_colours : n_colours m_colours = m_colours := by
  unfold n_colours m_colours d_colours
  simp only [sSeqN_is, sForN_is, eLcN_is, eqFN_is, neFN_is, eVN_is, gNN_is, sSetN_is, ixFN_is, fastA_is, fastB_is, origA, origB, ne_check_size, ne_inversions]
noncomputable def n_longest_decreasing (col : DP.Fn) : DP.Fn := DP.runDef 1 1 (DP.sRet (DP.eBin DP.maxDF (DP.eCall col (DP.aCons (DP.eVN 0) DP.aNil)) (DP.eC (.int 0))))
theorem ne_longest_decreasing : n_longest_decreasing m_colours = m_longest_decreasing := by
  unfold n_longest_decreasing m_longest_decreasing d_longest_decreasing
  simp only [sSeqN_is, sForN_is, eLcN_is, eqFN_is, neFN_is, eVN_is, gNN_is, sSetN_is, ixFN_is, fastA_is, fastB_is, origA, origB, ne_check_size, ne_inversions, ne_colours]
noncomputable def n_decreasing_places (col : DP.Fn) : DP.Fn := DP.runDef 2 8 (DP.sSeqN (DP.sSetN 2 (DP.eCall col (DP.aCons (DP.eVN 0) DP.aNil)))
    (DP.sSeqN (DP.sIf (DP.tE (DP.eBin DP.notInF (DP.eVN 1) (DP.eVN 2))) (DP.sRet (DP.eC .non)) DP.sNext)
    (DP.sSeqN (DP.sSetN 3 (DP.eMtT DP.indexM (DP.eVN 2) (DP.aCons (DP.eVN 1) DP.aNil)))
    (DP.sSeqN (DP.sSetN 4 (DP.eLst (DP.aCons (DP.eBin DP.addF (DP.eVN 3) (DP.eC (.int 1))) DP.aNil)))
    (DP.sSeqN (DP.sForN (DP.iRd (DP.eBin DP.subF (DP.eVN 1) (DP.eC (.int 1))) (DP.eC (.int 0))) (DP.gNN 5) (DP.sSeqN (DP.sSetN 6 (DP.eLcN [7] (DP.iR1 (DP.eVN 3)) (DP.gNN 7) (DP.tAnd (DP.tE (DP.eBin DP.eqFN (DP.eBin DP.ixFN (DP.eVN 2) (DP.eVN 7)) (DP.eVN 5))) (DP.tE (DP.eBin DP.gtF (DP.eBin DP.ixFN (DP.eVN 0) (DP.eVN 7)) (DP.eBin DP.ixFN (DP.eVN 0) (DP.eVN 3))))) (DP.eVN 7)))
    (DP.sSeqN (DP.sSetN 3 (DP.eBin DP.ixFN (DP.eVN 6) (DP.eC (.int 0))))
    (DP.sDrop (DP.eMut DP.appendM 4 (DP.aCons (DP.eBin DP.addF (DP.eVN 3) (DP.eC (.int 1))) DP.aNil))))))
    (DP.sSeqN (DP.sDrop (DP.eMut DP.reverseM 4 DP.aNil))
    (DP.sRet (DP.eCB DP.tupleF (DP.aCons (DP.eVN 4) DP.aNil)))))))))
theorem ne_decreasing_places : n_decreasing_places m_colours = m_decreasing_places := by
  unfold n_decreasing_places m_decreasing_places d_decreasing_places
  simp only [sSeqN_is, sForN_is, eLcN_is, eqFN_is, neFN_is, eVN_is, gNN_is, sSetN_is, ixFN_is, fastA_is, fastB_is, origA, origB, ne_check_size, ne_inversions, ne_colours, ne_longest_decreasing]
noncomputable def n_is_good (col : DP.Fn) : DP.Fn := DP.runDef 2 2 (DP.sSeqN (DP.sDrop (DP.eCall (n_check_size col) (DP.aCons (DP.eVN 1) DP.aNil)))
    (DP.sRet (DP.eBin DP.leF (DP.eCall (n_longest_decreasing col) (DP.aCons (DP.eVN 0) DP.aNil)) (DP.eVN 1))))
theorem ne_is_good : n_is_good m_colours = m_is_good := by
  unfold n_is_good m_is_good d_is_good
  simp only [sSeqN_is, sForN_is, eLcN_is, eqFN_is, neFN_is, eVN_is, gNN_is, sSetN_is, ixFN_is, fastA_is, fastB_is, origA, origB, ne_check_size, ne_inversions, ne_colours, ne_longest_decreasing, ne_decreasing_places]
noncomputable def n__law_whole (col : DP.Fn) : DP.Fn := DP.runDef 1 1 (DP.sRet (DP.eAnd (DP.eUn (DP.isTyF "int") (DP.eVN 0)) (DP.eNot (DP.eUn (DP.isTyF "bool") (DP.eVN 0)))))
theorem ne__law_whole : n__law_whole m_colours = m__law_whole := by
  unfold n__law_whole m__law_whole d__law_whole
  simp only [sSeqN_is, sForN_is, eLcN_is, eqFN_is, neFN_is, eVN_is, gNN_is, sSetN_is, ixFN_is, fastA_is, fastB_is, origA, origB, ne_check_size, ne_inversions, ne_colours, ne_longest_decreasing, ne_decreasing_places, ne_is_good]
noncomputable def n__law_pairs (col : DP.Fn) : DP.Fn := DP.runDef 1 4 (DP.sSeqN (DP.sSetN 1 (DP.eC (.int 0)))
    (DP.sSeqN (DP.sForN (DP.iR1 (DP.eCB DP.lenF (DP.aCons (DP.eVN 0) DP.aNil))) (DP.gNN 2) (DP.sForN (DP.iR1 (DP.eVN 2)) (DP.gNN 3) (DP.sSetN 1 (DP.eBin DP.addF (DP.eVN 1) (DP.eCB DP.intF (DP.aCons (DP.eBin DP.gtF (DP.eBin DP.ixFN (DP.eVN 0) (DP.eVN 3)) (DP.eBin DP.ixFN (DP.eVN 0) (DP.eVN 2))) DP.aNil))))))
    (DP.sRet (DP.eVN 1))))
theorem ne__law_pairs : n__law_pairs m_colours = m__law_pairs := by
  unfold n__law_pairs m__law_pairs d__law_pairs
  simp only [sSeqN_is, sForN_is, eLcN_is, eqFN_is, neFN_is, eVN_is, gNN_is, sSetN_is, ixFN_is, fastA_is, fastB_is, origA, origB, ne_check_size, ne_inversions, ne_colours, ne_longest_decreasing, ne_decreasing_places, ne_is_good, ne__law_whole]
noncomputable def n__law_subsequences (col : DP.Fn) : DP.Fn := DP.runDef 1 4 (DP.sSeqN (DP.sSetN 1 (DP.eLst DP.aNil))
    (DP.sSeqN (DP.sForN (DP.iR1 (DP.eCB DP.lenF (DP.aCons (DP.eVN 0) DP.aNil))) (DP.gNN 2) (DP.sSetN 1 (DP.eBin DP.addF (DP.eBin DP.addF (DP.eVN 1) (DP.eLst (DP.aCons (DP.eLst (DP.aCons (DP.eVN 2) DP.aNil)) DP.aNil))) (DP.eLcN [3] (DP.iE (DP.eVN 1)) (DP.gNN 3) (DP.tE (DP.eBin DP.gtF (DP.eBin DP.ixFN (DP.eVN 0) (DP.eBin DP.ixFN (DP.eVN 3) (DP.eUn DP.negF (DP.eC (.int 1))))) (DP.eBin DP.ixFN (DP.eVN 0) (DP.eVN 2)))) (DP.eBin DP.addF (DP.eVN 3) (DP.eLst (DP.aCons (DP.eVN 2) DP.aNil)))))))
    (DP.sRet (DP.eVN 1))))
theorem ne__law_subsequences : n__law_subsequences m_colours = m__law_subsequences := by
  unfold n__law_subsequences m__law_subsequences d__law_subsequences
  simp only [sSeqN_is, sForN_is, eLcN_is, eqFN_is, neFN_is, eVN_is, gNN_is, sSetN_is, ixFN_is, fastA_is, fastB_is, origA, origB, ne_check_size, ne_inversions, ne_colours, ne_longest_decreasing, ne_decreasing_places, ne_is_good, ne__law_whole, ne__law_pairs]
noncomputable def n__law_falls (col : DP.Fn) : DP.Fn := DP.runDef 3 5 (DP.sSeqN (DP.sIf (DP.tOr (DP.tNot (DP.tTru (DP.eUn (DP.isTyF "tuple") (DP.eVN 0)))) (DP.tE (DP.eBin DP.neFN (DP.eCB DP.lenF (DP.aCons (DP.eVN 0) DP.aNil)) (DP.eVN 2)))) (DP.sRet (DP.eC (.bl false))) DP.sNext)
    (DP.sSeqN (DP.sSetN 3 (DP.eC (.int 0)))
    (DP.sSeqN (DP.sForN (DP.iE (DP.eVN 0)) (DP.gNN 4) (DP.sSeqN (DP.sIf (DP.tOr (DP.tNot (DP.tTru (DP.eCall (n__law_whole col) (DP.aCons (DP.eVN 4) DP.aNil)))) (DP.tOr (DP.tE (DP.eBin DP.leF (DP.eVN 4) (DP.eVN 3))) (DP.tE (DP.eBin DP.gtF (DP.eVN 4) (DP.eCB DP.lenF (DP.aCons (DP.eVN 1) DP.aNil)))))) (DP.sRet (DP.eC (.bl false))) DP.sNext)
    (DP.sSeqN (DP.sIf (DP.tAnd (DP.tE (DP.eBin DP.gtF (DP.eVN 3) (DP.eC (.int 0)))) (DP.tE (DP.eBin DP.leF (DP.eBin DP.ixFN (DP.eVN 1) (DP.eBin DP.subF (DP.eVN 3) (DP.eC (.int 1)))) (DP.eBin DP.ixFN (DP.eVN 1) (DP.eBin DP.subF (DP.eVN 4) (DP.eC (.int 1))))))) (DP.sRet (DP.eC (.bl false))) DP.sNext)
    (DP.sSetN 3 (DP.eVN 4)))))
    (DP.sRet (DP.eC (.bl true))))))
theorem ne__law_falls : n__law_falls m_colours = m__law_falls := by
  unfold n__law_falls m__law_falls d__law_falls
  simp only [sSeqN_is, sForN_is, eLcN_is, eqFN_is, neFN_is, eVN_is, gNN_is, sSetN_is, ixFN_is, fastA_is, fastB_is, origA, origB, ne_check_size, ne_inversions, ne_colours, ne_longest_decreasing, ne_decreasing_places, ne_is_good, ne__law_whole, ne__law_pairs, ne__law_subsequences]
noncomputable def n__law_lengths (col : DP.Fn) : DP.Fn := DP.runDef 2 5 (DP.sSeqN (DP.sForN (DP.iR2 (DP.eC (.int 1)) (DP.eC (.int 13))) (DP.gNN 2) (DP.sSeqN (DP.sSetN 3 (DP.eCall (n_decreasing_places col) (DP.aCons (DP.eVN 0) (DP.aCons (DP.eVN 2) DP.aNil))))
    (DP.sIf (DP.tE (DP.eBin DP.eqFN (DP.eCB DP.lenF (DP.aCons DP.fastA DP.aNil)) (DP.eC (.int 0)))) (DP.sIf (DP.tE (DP.eUn DP.isNotNF (DP.eVN 3))) (DP.sRet (DP.eC (.bl false))) DP.sNext) (DP.sIf (DP.tNot (DP.tTru (DP.eCall (n__law_falls col) (DP.aCons (DP.eVN 3) (DP.aCons (DP.eVN 0) (DP.aCons (DP.eVN 2) DP.aNil)))))) (DP.sRet (DP.eC (.bl false))) DP.sNext))))
    (DP.sRet (DP.eC (.bl true))))
theorem ne__law_lengths : n__law_lengths m_colours = m__law_lengths := by
  unfold n__law_lengths m__law_lengths d__law_lengths
  simp only [sSeqN_is, sForN_is, eLcN_is, eqFN_is, neFN_is, eVN_is, gNN_is, sSetN_is, ixFN_is, fastA_is, fastB_is, origA, origB, ne_check_size, ne_inversions, ne_colours, ne_longest_decreasing, ne_decreasing_places, ne_is_good, ne__law_whole, ne__law_pairs, ne__law_subsequences, ne__law_falls]
def z0 : DP.S := (DP.sSet 1 (DP.eBin DP.modF (DP.eCB DP.intF (DP.aCons (DP.eCall m__law_cell (DP.aCons (DP.eV 0) (DP.aCons (DP.eC (.int 0)) DP.aNil))) DP.aNil)) (DP.eC (.int 7))))
def z1 : DP.S := (DP.sSet 2 (DP.eCall m__law_drawn (DP.aCons (DP.eCall m__law_number (DP.aCons (DP.eV 0) (DP.aCons (DP.eC (.int 1)) DP.aNil))) (DP.aCons (DP.eV 1) DP.aNil))))
def z2 : DP.S := (DP.sIf (DP.tE (DP.eBin DP.eqF (DP.eBin DP.modF (DP.eCB DP.intF (DP.aCons (DP.eCall m__law_cell (DP.aCons (DP.eV 0) (DP.aCons (DP.eC (.int 2)) DP.aNil))) DP.aNil)) (DP.eC (.int 6))) (DP.eC (.int 0)))) (DP.sSet 2 (DP.eRg DP.tupRgF (DP.eC (.int 1)) (DP.eBin DP.addF (DP.eV 1) (DP.eC (.int 1))))) DP.sNext)
def z3 : DP.S := (DP.sIf (DP.tE (DP.eBin DP.eqF (DP.eBin DP.modF (DP.eCB DP.intF (DP.aCons (DP.eCall m__law_cell (DP.aCons (DP.eV 0) (DP.aCons (DP.eC (.int 2)) DP.aNil))) DP.aNil)) (DP.eC (.int 6))) (DP.eC (.int 1)))) (DP.sSet 2 (DP.eRg DP.tupRdF (DP.eV 1) (DP.eC (.int 0)))) DP.sNext)
def z4 : DP.S := (DP.sSet 3 (DP.eCall m__law_subsequences (DP.aCons (DP.eV 2) DP.aNil)))
noncomputable def y4 (col : DP.Fn) : DP.S := (DP.sSetN 3 (DP.eCall (n__law_subsequences col) (DP.aCons (DP.eVN 2) DP.aNil)))
theorem ye_4 : y4 m_colours = z4 := by
  unfold y4 z4
  simp only [sSeqN_is, sForN_is, eLcN_is, eqFN_is, neFN_is, eVN_is, gNN_is, sSetN_is, ixFN_is, fastA_is, fastB_is, origA, origB, ne_check_size, ne_inversions, ne_colours, ne_longest_decreasing, ne_decreasing_places, ne_is_good, ne__law_whole, ne__law_pairs, ne__law_subsequences, ne__law_falls, ne__law_lengths]
def z5 : DP.S := (DP.sSet 4 (DP.eCB DP.tupleF (DP.aCons (DP.eLc [5] (DP.iR1 (DP.eV 1)) (DP.gN 5) DP.tYes (DP.eCB DP.maxF (DP.aCons (DP.eLc [6] (DP.iE (DP.eV 3)) (DP.gN 6) (DP.tE (DP.eBin DP.eqF (DP.eBin DP.ixF (DP.eV 6) (DP.eUn DP.negF (DP.eC (.int 1)))) (DP.eV 5))) (DP.eCB DP.lenF (DP.aCons (DP.eV 6) DP.aNil))) DP.aNil))) DP.aNil)))
noncomputable def y5 (col : DP.Fn) : DP.S := (DP.sSetN 4 (DP.eCB DP.tupleF (DP.aCons (DP.eLcN [5] (DP.iR1 (DP.eVN 1)) (DP.gNN 5) DP.tYes (DP.eCB DP.maxF (DP.aCons DP.fastB DP.aNil))) DP.aNil)))
theorem ye_5 : y5 m_colours = z5 := by
  unfold y5 z5
  simp only [sSeqN_is, sForN_is, eLcN_is, eqFN_is, neFN_is, eVN_is, gNN_is, sSetN_is, ixFN_is, fastA_is, fastB_is, origA, origB, ne_check_size, ne_inversions, ne_colours, ne_longest_decreasing, ne_decreasing_places, ne_is_good, ne__law_whole, ne__law_pairs, ne__law_subsequences, ne__law_falls, ne__law_lengths]
def z6 : DP.S := (DP.sSet 7 (DP.eCall m_colours (DP.aCons (DP.eV 2) DP.aNil)))
noncomputable def y6 (col : DP.Fn) : DP.S := (DP.sSetN 7 (DP.eCall col (DP.aCons (DP.eVN 2) DP.aNil)))
theorem ye_6 : y6 m_colours = z6 := by
  unfold y6 z6
  simp only [sSeqN_is, sForN_is, eLcN_is, eqFN_is, neFN_is, eVN_is, gNN_is, sSetN_is, ixFN_is, fastA_is, fastB_is, origA, origB, ne_check_size, ne_inversions, ne_colours, ne_longest_decreasing, ne_decreasing_places, ne_is_good, ne__law_whole, ne__law_pairs, ne__law_subsequences, ne__law_falls, ne__law_lengths]
def z7 : DP.S := (DP.sIf (DP.tOr (DP.tNot (DP.tTru (DP.eUn (DP.isTyF "tuple") (DP.eV 7)))) (DP.tOr (DP.tE (DP.eBin DP.gtF (DP.eCB DP.lenF (DP.aCons (DP.eLc [8] (DP.iE (DP.eV 7)) (DP.gN 8) (DP.tNot (DP.tTru (DP.eCall m__law_whole (DP.aCons (DP.eV 8) DP.aNil)))) (DP.eV 8)) DP.aNil)) (DP.eC (.int 0)))) (DP.tE (DP.eBin DP.neF (DP.eV 7) (DP.eV 4))))) (DP.sRet (DP.eC (.bl false))) DP.sNext)
noncomputable def y7 (col : DP.Fn) : DP.S := (DP.sIf (DP.tOr (DP.tNot (DP.tTru (DP.eUn (DP.isTyF "tuple") (DP.eVN 7)))) (DP.tOr (DP.tE (DP.eBin DP.gtF (DP.eCB DP.lenF (DP.aCons (DP.eLcN [8] (DP.iE (DP.eVN 7)) (DP.gNN 8) (DP.tNot (DP.tTru (DP.eCall (n__law_whole col) (DP.aCons (DP.eVN 8) DP.aNil)))) (DP.eVN 8)) DP.aNil)) (DP.eC (.int 0)))) (DP.tE (DP.eBin DP.neFN (DP.eVN 7) (DP.eVN 4))))) (DP.sRet (DP.eC (.bl false))) DP.sNext)
theorem ye_7 : y7 m_colours = z7 := by
  unfold y7 z7
  simp only [sSeqN_is, sForN_is, eLcN_is, eqFN_is, neFN_is, eVN_is, gNN_is, sSetN_is, ixFN_is, fastA_is, fastB_is, origA, origB, ne_check_size, ne_inversions, ne_colours, ne_longest_decreasing, ne_decreasing_places, ne_is_good, ne__law_whole, ne__law_pairs, ne__law_subsequences, ne__law_falls, ne__law_lengths]
def z8 : DP.S := (DP.sSet 9 (DP.eCB DP.maxF (DP.aCons (DP.eBin DP.addF (DP.eLst (DP.aCons (DP.eC (.int 0)) DP.aNil)) (DP.eLc [6] (DP.iE (DP.eV 3)) (DP.gN 6) DP.tYes (DP.eCB DP.lenF (DP.aCons (DP.eV 6) DP.aNil)))) DP.aNil)))
noncomputable def y8 (col : DP.Fn) : DP.S := (DP.sSetN 9 (DP.eCB DP.maxF (DP.aCons (DP.eBin DP.addF (DP.eLst (DP.aCons (DP.eC (.int 0)) DP.aNil)) (DP.eLcN [6] (DP.iE (DP.eVN 3)) (DP.gNN 6) DP.tYes (DP.eCB DP.lenF (DP.aCons (DP.eVN 6) DP.aNil)))) DP.aNil)))
theorem ye_8 : y8 m_colours = z8 := by
  unfold y8 z8
  simp only [sSeqN_is, sForN_is, eLcN_is, eqFN_is, neFN_is, eVN_is, gNN_is, sSetN_is, ixFN_is, fastA_is, fastB_is, origA, origB, ne_check_size, ne_inversions, ne_colours, ne_longest_decreasing, ne_decreasing_places, ne_is_good, ne__law_whole, ne__law_pairs, ne__law_subsequences, ne__law_falls, ne__law_lengths]
def z9 : DP.S := (DP.sSet 10 (DP.eCall m_longest_decreasing (DP.aCons (DP.eV 2) DP.aNil)))
noncomputable def y9 (col : DP.Fn) : DP.S := (DP.sSetN 10 (DP.eCall (n_longest_decreasing col) (DP.aCons (DP.eVN 2) DP.aNil)))
theorem ye_9 : y9 m_colours = z9 := by
  unfold y9 z9
  simp only [sSeqN_is, sForN_is, eLcN_is, eqFN_is, neFN_is, eVN_is, gNN_is, sSetN_is, ixFN_is, fastA_is, fastB_is, origA, origB, ne_check_size, ne_inversions, ne_colours, ne_longest_decreasing, ne_decreasing_places, ne_is_good, ne__law_whole, ne__law_pairs, ne__law_subsequences, ne__law_falls, ne__law_lengths]
def z10 : DP.S := (DP.sSet 11 (DP.eCall m_inversions (DP.aCons (DP.eV 2) DP.aNil)))
noncomputable def y10 (col : DP.Fn) : DP.S := (DP.sSetN 11 (DP.eCall (n_inversions col) (DP.aCons (DP.eVN 2) DP.aNil)))
theorem ye_10 : y10 m_colours = z10 := by
  unfold y10 z10
  simp only [sSeqN_is, sForN_is, eLcN_is, eqFN_is, neFN_is, eVN_is, gNN_is, sSetN_is, ixFN_is, fastA_is, fastB_is, origA, origB, ne_check_size, ne_inversions, ne_colours, ne_longest_decreasing, ne_decreasing_places, ne_is_good, ne__law_whole, ne__law_pairs, ne__law_subsequences, ne__law_falls, ne__law_lengths]
def z11 : DP.S := (DP.sIf (DP.tOr (DP.tNot (DP.tTru (DP.eCall m__law_whole (DP.aCons (DP.eV 10) DP.aNil)))) (DP.tOr (DP.tE (DP.eBin DP.neF (DP.eV 10) (DP.eV 9))) (DP.tOr (DP.tNot (DP.tTru (DP.eCall m__law_whole (DP.aCons (DP.eV 11) DP.aNil)))) (DP.tE (DP.eBin DP.neF (DP.eV 11) (DP.eCall m__law_pairs (DP.aCons (DP.eV 2) DP.aNil))))))) (DP.sRet (DP.eC (.bl false))) DP.sNext)
noncomputable def y11 (col : DP.Fn) : DP.S := (DP.sIf (DP.tOr (DP.tNot (DP.tTru (DP.eCall (n__law_whole col) (DP.aCons (DP.eVN 10) DP.aNil)))) (DP.tOr (DP.tE (DP.eBin DP.neFN (DP.eVN 10) (DP.eVN 9))) (DP.tOr (DP.tNot (DP.tTru (DP.eCall (n__law_whole col) (DP.aCons (DP.eVN 11) DP.aNil)))) (DP.tE (DP.eBin DP.neFN (DP.eVN 11) (DP.eCall (n__law_pairs col) (DP.aCons (DP.eVN 2) DP.aNil))))))) (DP.sRet (DP.eC (.bl false))) DP.sNext)
theorem ye_11 : y11 m_colours = z11 := by
  unfold y11 z11
  simp only [sSeqN_is, sForN_is, eLcN_is, eqFN_is, neFN_is, eVN_is, gNN_is, sSetN_is, ixFN_is, fastA_is, fastB_is, origA, origB, ne_check_size, ne_inversions, ne_colours, ne_longest_decreasing, ne_decreasing_places, ne_is_good, ne__law_whole, ne__law_pairs, ne__law_subsequences, ne__law_falls, ne__law_lengths]
def z12 : DP.S := (DP.sIf (DP.tNot (DP.tTru (DP.eCall m__law_lengths (DP.aCons (DP.eV 2) (DP.aCons (DP.eV 3) DP.aNil))))) (DP.sRet (DP.eC (.bl false))) DP.sNext)
noncomputable def y12 (col : DP.Fn) : DP.S := (DP.sIf (DP.tNot (DP.tTru (DP.eCall (n__law_lengths col) (DP.aCons (DP.eVN 2) (DP.aCons (DP.eVN 3) DP.aNil))))) (DP.sRet (DP.eC (.bl false))) DP.sNext)
theorem ye_12 : y12 m_colours = z12 := by
  unfold y12 z12
  simp only [sSeqN_is, sForN_is, eLcN_is, eqFN_is, neFN_is, eVN_is, gNN_is, sSetN_is, ixFN_is, fastA_is, fastB_is, origA, origB, ne_check_size, ne_inversions, ne_colours, ne_longest_decreasing, ne_decreasing_places, ne_is_good, ne__law_whole, ne__law_pairs, ne__law_subsequences, ne__law_falls, ne__law_lengths]
def z13 : DP.S := (DP.sFor (DP.iR2 (DP.eC (.int 1)) (DP.eC (.int 4))) (DP.gN 12) (DP.sSeq (DP.sSet 13 (DP.eCall m_is_good (DP.aCons (DP.eV 2) (DP.aCons (DP.eV 12) DP.aNil))))
    (DP.sIf (DP.tOr (DP.tNot (DP.tTru (DP.eUn (DP.isTyF "bool") (DP.eV 13)))) (DP.tE (DP.eBin DP.neF (DP.eV 13) (DP.eBin DP.leF (DP.eV 9) (DP.eV 12))))) (DP.sRet (DP.eC (.bl false))) DP.sNext)))
noncomputable def y13 (col : DP.Fn) : DP.S := (DP.sForN (DP.iR2 (DP.eC (.int 1)) (DP.eC (.int 4))) (DP.gNN 12) (DP.sSeqN (DP.sSetN 13 (DP.eCall (n_is_good col) (DP.aCons (DP.eVN 2) (DP.aCons (DP.eVN 12) DP.aNil))))
    (DP.sIf (DP.tOr (DP.tNot (DP.tTru (DP.eUn (DP.isTyF "bool") (DP.eVN 13)))) (DP.tE (DP.eBin DP.neFN (DP.eVN 13) (DP.eBin DP.leF (DP.eVN 9) (DP.eVN 12))))) (DP.sRet (DP.eC (.bl false))) DP.sNext)))
theorem ye_13 : y13 m_colours = z13 := by
  unfold y13 z13
  simp only [sSeqN_is, sForN_is, eLcN_is, eqFN_is, neFN_is, eVN_is, gNN_is, sSetN_is, ixFN_is, fastA_is, fastB_is, origA, origB, ne_check_size, ne_inversions, ne_colours, ne_longest_decreasing, ne_decreasing_places, ne_is_good, ne__law_whole, ne__law_pairs, ne__law_subsequences, ne__law_falls, ne__law_lengths]
def z14 : DP.S := (DP.sSet 12 (DP.eBin DP.subF (DP.eBin DP.modF (DP.eCB DP.intF (DP.aCons (DP.eCall m__law_cell (DP.aCons (DP.eV 0) (DP.aCons (DP.eC (.int 3)) DP.aNil))) DP.aNil)) (DP.eC (.int 13))) (DP.eC (.int 4))))
def z15 : DP.S := (DP.sIf (DP.tE (DP.eBin DP.eqF (DP.eBin DP.modF (DP.eCB DP.intF (DP.aCons (DP.eBin DP.fdivF (DP.eCall m__law_cell (DP.aCons (DP.eV 0) (DP.aCons (DP.eC (.int 3)) DP.aNil))) (DP.eC (.int 13))) DP.aNil)) (DP.eC (.int 7))) (DP.eC (.int 3)))) (DP.sSet 12 (DP.eBin DP.addF (DP.eC (.int 4)) (DP.eBin DP.modF (DP.eCB DP.intF (DP.aCons (DP.eBin DP.fdivF (DP.eCall m__law_cell (DP.aCons (DP.eV 0) (DP.aCons (DP.eC (.int 3)) DP.aNil))) (DP.eC (.int 91))) DP.aNil)) (DP.eBin DP.powF (DP.eC (.int 10)) (DP.eC (.int 31)))))) DP.sNext)
def z16 : DP.S := (DP.sIf (DP.tOr (DP.tE (DP.eBin DP.ltF (DP.eV 12) (DP.eC (.int 1)))) (DP.tE (DP.eBin DP.gtF (DP.eV 12) (DP.eC (.int 3))))) (DP.sIf (DP.tNot (DP.tTru (DP.eCall m__law_refused (DP.aCons (DP.eV 2) (DP.aCons (DP.eV 12) DP.aNil))))) (DP.sRet (DP.eC (.bl false))) DP.sNext) DP.sNext)
def z17 : DP.S := (DP.sRet (DP.eAnd (DP.eBin DP.eqF (DP.eCall m_colours (DP.aCons (DP.eV 2) DP.aNil)) (DP.eV 4)) (DP.eBin DP.eqF (DP.eCall m_longest_decreasing (DP.aCons (DP.eV 2) DP.aNil)) (DP.eV 9))))
noncomputable def midK (col : DP.Fn) : DP.S := (sSeqN (y4 col) (sSeqN (y5 col) (sSeqN (y6 col) (sSeqN (y7 col) (sSeqN (y8 col) (sSeqN (y9 col) (sSeqN (y10 col) (sSeqN (y11 col) (sSeqN (y12 col) (y13 col))))))))))
def midZ : DP.S := (sSeq z4 (sSeq z5 (sSeq z6 (sSeq z7 (sSeq z8 (sSeq z9 (sSeq z10 (sSeq z11 (sSeq z12 z13)))))))))
theorem midK_is : midK m_colours = midZ := by
  unfold midK midZ
  simp only [sSeqN_is, ye_4, ye_5, ye_6, ye_7, ye_8, ye_9, ye_10, ye_11, ye_12, ye_13]
def tailK : DP.S := (sSeq z14 (sSeq z15 (sSeq z16 z17)))
theorem law_split : d_law = (sSeq z0 (sSeq z1 (sSeq z2 (sSeq z3 (sSeq z4 (sSeq z5 (sSeq z6 (sSeq z7 (sSeq z8 (sSeq z9 (sSeq z10 (sSeq z11 (sSeq z12 (sSeq z13 tailK)))))))))))))) := rfl
theorem seq_assoc (a b c : DP.S) : sSeq a (sSeq b c) = sSeq (sSeq a b) c := by
  funext Γ
  unfold sSeq
  cases a Γ <;> rfl
theorem law_split2 : d_law = sSeq z0 (sSeq z1 (sSeq z2 (sSeq z3 (sSeq (midK m_colours) tailK)))) := by
  rw [law_split, midK_is]
  unfold midZ
  simp only [seq_assoc]
def sameI : List D → List Int → Bool
  | [], [] => true
  | .int i :: r, j :: s => decide (i = j) && sameI r s
  | _, _ => false
theorem sameI_is : ∀ {q : List D} {p : List Int}, sameI q p = true → q = p.map D.int
  | [], [], _ => rfl
  | [], _ :: _, h => by cases h
  | .int i :: r, j :: s, h => by
    unfold sameI at h
    rw [Bool.and_eq_true,
        decide_eq_true_eq] at h
    rw [h.1, sameI_is h.2]
    rfl
  | .int i :: r, [], h => by cases h
  | .non :: r, q, h => by unfold sameI at h; cases q <;> cases h
  | .bl _ :: r, q, h => by unfold sameI at h; cases q <;> cases h
  | .str _ :: r, q, h => by unfold sameI at h; cases q <;> cases h
  | .tup _ :: r, q, h => by unfold sameI at h; cases q <;> cases h
  | .lst _ :: r, q, h => by unfold sameI at h; cases q <;> cases h
  | .scr _ :: r, q, h => by unfold sameI at h; cases q <;> cases h
  | .dK _ :: r, q, h => by unfold sameI at h; cases q <;> cases h
  | .dT _ :: r, q, h => by unfold sameI at h; cases q <;> cases h
  | .ins _ _ :: r, q, h => by unfold sameI at h; cases q <;> cases h
/-- colours, known for one row -/
def memo (p r : List Int) : DP.Fn := fun ds => match ds with
  | [.tup q] => if sameI q p = true then .ok (.tup (r.map D.int)) else m_colours [.tup q]
  | ds => m_colours ds
theorem memo_is {p r : List Int} (h : m_colours [.tup (p.map D.int)] = .ok (.tup (r.map D.int))) : m_colours = memo p r := by
  funext ds
  unfold memo
  split
  · split
    · rename_i hs
      rw [sameI_is hs, h]
    · rfl
  · rfl
/-- a row of small numbers as one number, and back -/
def code : List D → Nat
  | .int (.ofNat k) :: r => k + 16 * code r
  | _ => 0
def unc : Nat → Nat → List Int
  | 0, _ => []
  | n + 1, k => (k % 16 : Nat) :: unc n (k / 16)
noncomputable def rk (n : Nat) (p : List Int) : List Int := unc n (match n_colours m_colours [.tup (p.map D.int)] with
  | .ok (.tup q) => code q
  | _ => 0)
noncomputable def okRk (p r : List Int) : Bool := match n_colours m_colours [.tup (p.map D.int)] with
  | .ok (.tup q) => sameI q r
  | _ => false
theorem okRk_is {p r : List Int} (h : okRk p r = true) : m_colours [.tup (p.map D.int)] = .ok (.tup (r.map D.int)) := by
  unfold okRk at h
  rw [ne_colours] at h
  split at h
  · rename_i q e
    rw [e, sameI_is h]
  · cases h
def envP (s0 : Slot) (c : Int) (p : List Int) : Env := [s0, .sh (.int c), .sh (.tup (p.map D.int)), .no, .no, .no, .no, .no, .no, .no, .no, .no, .no, .no]
noncomputable def outK (p r : List Int) : SR → Option (Slot × Bool)
  | .next Γ => match Γ with
    | [a0, _, .sh (.tup q), _, .sh (.tup due), _, _, _, _, .sh (.int most), _, _, _, _] => some (a0, sameI q p && sameI due r && (match n_longest_decreasing (memo p r) [.tup (p.map D.int)] with
       | .ok (.int l) => decide (l = most)
       | _ => false))
    | _ => none
  | _ => none
noncomputable def runP (s0 : Slot) (n : Nat) (p : List Int) : Option (Slot × Bool) := outK p (rk n p) (midK (memo p (rk n p)) (envP s0 n p))
end DP


namespace DP
open PySem
/-- one more taken, from what is left -/
def draws : Nat → List Int → List (List Int)
  | 0, _ => [[]]
  | n + 1, l => (List.range l.length).flatMap fun i => match l[i]? with
    | some x => (draws n (l.eraseIdx i)).map (x :: ·)
    | none => []
def upto (n : Nat) : List Int := (List.range n).map fun i => ((i + 1 : Nat) : Int)
def allOk (n : Nat) (ps : List (List Int)) : Prop := ∀ p ∈ ps, okRk p (rk n p) = true ∧ ∀ s0, runP s0 n p = some (s0, true)
theorem allOk_mk {n k : Nat} {ps : List (List Int)} (h1 : ps.all (fun p => okRk p (rk n p)) = true) (h2 : ∀ s0, ps.map (runP s0 n) = List.replicate k (some (s0, true))) : allOk n ps := fun p hp => by
  refine ⟨List.all_eq_true.mp h1 p hp, fun s0 => ?_⟩
  have : runP s0 n p ∈ ps.map (runP s0 n) := List.mem_map.mpr ⟨p, hp, rfl⟩
  rw [h2 s0] at this
  exact (List.mem_replicate.mp this).2
theorem allOk_app {n : Nat} {ps qs : List (List Int)} (h1 : allOk n ps) (h2 : allOk n qs) : allOk n (ps ++ qs) := fun p hp => by
  rcases List.mem_append.mp
      hp with h | h
  · exact h1 p h
  · exact h2 p h
def r0_0 : List (List Int) := [[]]
theorem ar0_0 : allOk 0 r0_0 := allOk_mk (k := 1) (by kernel_rfl) (fun s0 => by unfold r0_0; kernel_rfl)
theorem all_r0 : allOk 0 (draws 0 (upto 0)) := by
  have e : draws 0 (upto 0) = r0_0 := by decide +kernel
  rw [e]
  exact ar0_0
def r1_0 : List (List Int) := [[1]]
theorem ar1_0 : allOk 1 r1_0 := allOk_mk (k := 1) (by kernel_rfl) (fun s0 => by unfold r1_0; kernel_rfl)
theorem all_r1 : allOk 1 (draws 1 (upto 1)) := by
  have e : draws 1 (upto 1) = r1_0 := by decide +kernel
  rw [e]
  exact ar1_0
def r2_0 : List (List Int) := [[1,2], [2,1]]
theorem ar2_0 : allOk 2 r2_0 := allOk_mk (k := 2) (by kernel_rfl) (fun s0 => by unfold r2_0; kernel_rfl)
theorem all_r2 : allOk 2 (draws 2 (upto 2)) := by
  have e : draws 2 (upto 2) = r2_0 := by decide +kernel
  rw [e]
  exact ar2_0
def r3_0 : List (List Int) := [[1,2,3], [1,3,2], [2,1,3], [2,3,1], [3,1,2], [3,2,1]]
theorem ar3_0 : allOk 3 r3_0 := allOk_mk (k := 6) (by kernel_rfl) (fun s0 => by unfold r3_0; kernel_rfl)
theorem all_r3 : allOk 3 (draws 3 (upto 3)) := by
  have e : draws 3 (upto 3) = r3_0 := by decide +kernel
  rw [e]
  exact ar3_0
def r4_0 : List (List Int) := [[1,2,3,4], [1,2,4,3], [1,3,2,4], [1,3,4,2], [1,4,2,3], [1,4,3,2], [2,1,3,4], [2,1,4,3],
  [2,3,1,4], [2,3,4,1], [2,4,1,3], [2,4,3,1], [3,1,2,4], [3,1,4,2], [3,2,1,4], [3,2,4,1],
  [3,4,1,2], [3,4,2,1], [4,1,2,3], [4,1,3,2]]
theorem ar4_0 : allOk 4 r4_0 := allOk_mk (k := 20) (by kernel_rfl) (fun s0 => by unfold r4_0; kernel_rfl)
def r4_1 : List (List Int) := [[4,2,1,3], [4,2,3,1], [4,3,1,2], [4,3,2,1]]
theorem ar4_1 : allOk 4 r4_1 := allOk_mk (k := 4) (by kernel_rfl) (fun s0 => by unfold r4_1; kernel_rfl)
theorem all_r4 : allOk 4 (draws 4 (upto 4)) := by
  have e : draws 4 (upto 4) = r4_0 ++ (r4_1) := by decide +kernel
  rw [e]
  exact (allOk_app ar4_0 ar4_1)
def r5_0 : List (List Int) := [[1,2,3,4,5], [1,2,3,5,4], [1,2,4,3,5], [1,2,4,5,3], [1,2,5,3,4], [1,2,5,4,3], [1,3,2,4,5], [1,3,2,5,4],
  [1,3,4,2,5], [1,3,4,5,2], [1,3,5,2,4], [1,3,5,4,2], [1,4,2,3,5], [1,4,2,5,3], [1,4,3,2,5], [1,4,3,5,2],
  [1,4,5,2,3], [1,4,5,3,2], [1,5,2,3,4], [1,5,2,4,3]]
theorem ar5_0 : allOk 5 r5_0 := allOk_mk (k := 20) (by kernel_rfl) (fun s0 => by unfold r5_0; kernel_rfl)
def r5_1 : List (List Int) := [[1,5,3,2,4], [1,5,3,4,2], [1,5,4,2,3], [1,5,4,3,2], [2,1,3,4,5], [2,1,3,5,4], [2,1,4,3,5], [2,1,4,5,3],
  [2,1,5,3,4], [2,1,5,4,3], [2,3,1,4,5], [2,3,1,5,4], [2,3,4,1,5], [2,3,4,5,1], [2,3,5,1,4], [2,3,5,4,1],
  [2,4,1,3,5], [2,4,1,5,3], [2,4,3,1,5], [2,4,3,5,1]]
theorem ar5_1 : allOk 5 r5_1 := allOk_mk (k := 20) (by kernel_rfl) (fun s0 => by unfold r5_1; kernel_rfl)
def r5_2 : List (List Int) := [[2,4,5,1,3], [2,4,5,3,1], [2,5,1,3,4], [2,5,1,4,3], [2,5,3,1,4], [2,5,3,4,1], [2,5,4,1,3], [2,5,4,3,1],
  [3,1,2,4,5], [3,1,2,5,4], [3,1,4,2,5], [3,1,4,5,2], [3,1,5,2,4], [3,1,5,4,2], [3,2,1,4,5], [3,2,1,5,4],
  [3,2,4,1,5], [3,2,4,5,1], [3,2,5,1,4], [3,2,5,4,1]]
theorem ar5_2 : allOk 5 r5_2 := allOk_mk (k := 20) (by kernel_rfl) (fun s0 => by unfold r5_2; kernel_rfl)
def r5_3 : List (List Int) := [[3,4,1,2,5], [3,4,1,5,2], [3,4,2,1,5], [3,4,2,5,1], [3,4,5,1,2], [3,4,5,2,1], [3,5,1,2,4], [3,5,1,4,2],
  [3,5,2,1,4], [3,5,2,4,1], [3,5,4,1,2], [3,5,4,2,1], [4,1,2,3,5], [4,1,2,5,3], [4,1,3,2,5], [4,1,3,5,2],
  [4,1,5,2,3], [4,1,5,3,2], [4,2,1,3,5], [4,2,1,5,3]]
theorem ar5_3 : allOk 5 r5_3 := allOk_mk (k := 20) (by kernel_rfl) (fun s0 => by unfold r5_3; kernel_rfl)
def r5_4 : List (List Int) := [[4,2,3,1,5], [4,2,3,5,1], [4,2,5,1,3], [4,2,5,3,1], [4,3,1,2,5], [4,3,1,5,2], [4,3,2,1,5], [4,3,2,5,1],
  [4,3,5,1,2], [4,3,5,2,1], [4,5,1,2,3], [4,5,1,3,2], [4,5,2,1,3], [4,5,2,3,1], [4,5,3,1,2], [4,5,3,2,1],
  [5,1,2,3,4], [5,1,2,4,3], [5,1,3,2,4], [5,1,3,4,2]]
theorem ar5_4 : allOk 5 r5_4 := allOk_mk (k := 20) (by kernel_rfl) (fun s0 => by unfold r5_4; kernel_rfl)
def r5_5 : List (List Int) := [[5,1,4,2,3], [5,1,4,3,2], [5,2,1,3,4], [5,2,1,4,3], [5,2,3,1,4], [5,2,3,4,1], [5,2,4,1,3], [5,2,4,3,1],
  [5,3,1,2,4], [5,3,1,4,2], [5,3,2,1,4], [5,3,2,4,1], [5,3,4,1,2], [5,3,4,2,1], [5,4,1,2,3], [5,4,1,3,2],
  [5,4,2,1,3], [5,4,2,3,1], [5,4,3,1,2], [5,4,3,2,1]]
theorem ar5_5 : allOk 5 r5_5 := allOk_mk (k := 20) (by kernel_rfl) (fun s0 => by unfold r5_5; kernel_rfl)
theorem all_r5 : allOk 5 (draws 5 (upto 5)) := by
  have e : draws 5 (upto 5) = r5_0 ++ (r5_1 ++ (r5_2 ++ (r5_3 ++ (r5_4 ++ (r5_5))))) := by decide +kernel
  rw [e]
  exact (allOk_app ar5_0 (allOk_app ar5_1 (allOk_app ar5_2 (allOk_app ar5_3 (allOk_app ar5_4 ar5_5)))))
def r6_0 : List (List Int) := [[1,2,3,4,5,6], [1,2,3,4,6,5], [1,2,3,5,4,6], [1,2,3,5,6,4], [1,2,3,6,4,5], [1,2,3,6,5,4], [1,2,4,3,5,6], [1,2,4,3,6,5],
  [1,2,4,5,3,6], [1,2,4,5,6,3], [1,2,4,6,3,5], [1,2,4,6,5,3], [1,2,5,3,4,6], [1,2,5,3,6,4], [1,2,5,4,3,6], [1,2,5,4,6,3],
  [1,2,5,6,3,4], [1,2,5,6,4,3], [1,2,6,3,4,5], [1,2,6,3,5,4]]
theorem ar6_0 : allOk 6 r6_0 := allOk_mk (k := 20) (by kernel_rfl) (fun s0 => by unfold r6_0; kernel_rfl)
def r6_1 : List (List Int) := [[1,2,6,4,3,5], [1,2,6,4,5,3], [1,2,6,5,3,4], [1,2,6,5,4,3], [1,3,2,4,5,6], [1,3,2,4,6,5], [1,3,2,5,4,6], [1,3,2,5,6,4],
  [1,3,2,6,4,5], [1,3,2,6,5,4], [1,3,4,2,5,6], [1,3,4,2,6,5], [1,3,4,5,2,6], [1,3,4,5,6,2], [1,3,4,6,2,5], [1,3,4,6,5,2],
  [1,3,5,2,4,6], [1,3,5,2,6,4], [1,3,5,4,2,6], [1,3,5,4,6,2]]
theorem ar6_1 : allOk 6 r6_1 := allOk_mk (k := 20) (by kernel_rfl) (fun s0 => by unfold r6_1; kernel_rfl)
def r6_2 : List (List Int) := [[1,3,5,6,2,4], [1,3,5,6,4,2], [1,3,6,2,4,5], [1,3,6,2,5,4], [1,3,6,4,2,5], [1,3,6,4,5,2], [1,3,6,5,2,4], [1,3,6,5,4,2],
  [1,4,2,3,5,6], [1,4,2,3,6,5], [1,4,2,5,3,6], [1,4,2,5,6,3], [1,4,2,6,3,5], [1,4,2,6,5,3], [1,4,3,2,5,6], [1,4,3,2,6,5],
  [1,4,3,5,2,6], [1,4,3,5,6,2], [1,4,3,6,2,5], [1,4,3,6,5,2]]
theorem ar6_2 : allOk 6 r6_2 := allOk_mk (k := 20) (by kernel_rfl) (fun s0 => by unfold r6_2; kernel_rfl)
def r6_3 : List (List Int) := [[1,4,5,2,3,6], [1,4,5,2,6,3], [1,4,5,3,2,6], [1,4,5,3,6,2], [1,4,5,6,2,3], [1,4,5,6,3,2], [1,4,6,2,3,5], [1,4,6,2,5,3],
  [1,4,6,3,2,5], [1,4,6,3,5,2], [1,4,6,5,2,3], [1,4,6,5,3,2], [1,5,2,3,4,6], [1,5,2,3,6,4], [1,5,2,4,3,6], [1,5,2,4,6,3],
  [1,5,2,6,3,4], [1,5,2,6,4,3], [1,5,3,2,4,6], [1,5,3,2,6,4]]
theorem ar6_3 : allOk 6 r6_3 := allOk_mk (k := 20) (by kernel_rfl) (fun s0 => by unfold r6_3; kernel_rfl)
def r6_4 : List (List Int) := [[1,5,3,4,2,6], [1,5,3,4,6,2], [1,5,3,6,2,4], [1,5,3,6,4,2], [1,5,4,2,3,6], [1,5,4,2,6,3], [1,5,4,3,2,6], [1,5,4,3,6,2],
  [1,5,4,6,2,3], [1,5,4,6,3,2], [1,5,6,2,3,4], [1,5,6,2,4,3], [1,5,6,3,2,4], [1,5,6,3,4,2], [1,5,6,4,2,3], [1,5,6,4,3,2],
  [1,6,2,3,4,5], [1,6,2,3,5,4], [1,6,2,4,3,5], [1,6,2,4,5,3]]
theorem ar6_4 : allOk 6 r6_4 := allOk_mk (k := 20) (by kernel_rfl) (fun s0 => by unfold r6_4; kernel_rfl)
def r6_5 : List (List Int) := [[1,6,2,5,3,4], [1,6,2,5,4,3], [1,6,3,2,4,5], [1,6,3,2,5,4], [1,6,3,4,2,5], [1,6,3,4,5,2], [1,6,3,5,2,4], [1,6,3,5,4,2],
  [1,6,4,2,3,5], [1,6,4,2,5,3], [1,6,4,3,2,5], [1,6,4,3,5,2], [1,6,4,5,2,3], [1,6,4,5,3,2], [1,6,5,2,3,4], [1,6,5,2,4,3],
  [1,6,5,3,2,4], [1,6,5,3,4,2], [1,6,5,4,2,3], [1,6,5,4,3,2]]
theorem ar6_5 : allOk 6 r6_5 := allOk_mk (k := 20) (by kernel_rfl) (fun s0 => by unfold r6_5; kernel_rfl)
def r6_6 : List (List Int) := [[2,1,3,4,5,6], [2,1,3,4,6,5], [2,1,3,5,4,6], [2,1,3,5,6,4], [2,1,3,6,4,5], [2,1,3,6,5,4], [2,1,4,3,5,6], [2,1,4,3,6,5],
  [2,1,4,5,3,6], [2,1,4,5,6,3], [2,1,4,6,3,5], [2,1,4,6,5,3], [2,1,5,3,4,6], [2,1,5,3,6,4], [2,1,5,4,3,6], [2,1,5,4,6,3],
  [2,1,5,6,3,4], [2,1,5,6,4,3], [2,1,6,3,4,5], [2,1,6,3,5,4]]
theorem ar6_6 : allOk 6 r6_6 := allOk_mk (k := 20) (by kernel_rfl) (fun s0 => by unfold r6_6; kernel_rfl)
def r6_7 : List (List Int) := [[2,1,6,4,3,5], [2,1,6,4,5,3], [2,1,6,5,3,4], [2,1,6,5,4,3], [2,3,1,4,5,6], [2,3,1,4,6,5], [2,3,1,5,4,6], [2,3,1,5,6,4],
  [2,3,1,6,4,5], [2,3,1,6,5,4], [2,3,4,1,5,6], [2,3,4,1,6,5], [2,3,4,5,1,6], [2,3,4,5,6,1], [2,3,4,6,1,5], [2,3,4,6,5,1],
  [2,3,5,1,4,6], [2,3,5,1,6,4], [2,3,5,4,1,6], [2,3,5,4,6,1]]
theorem ar6_7 : allOk 6 r6_7 := allOk_mk (k := 20) (by kernel_rfl) (fun s0 => by unfold r6_7; kernel_rfl)
def r6_8 : List (List Int) := [[2,3,5,6,1,4], [2,3,5,6,4,1], [2,3,6,1,4,5], [2,3,6,1,5,4], [2,3,6,4,1,5], [2,3,6,4,5,1], [2,3,6,5,1,4], [2,3,6,5,4,1],
  [2,4,1,3,5,6], [2,4,1,3,6,5], [2,4,1,5,3,6], [2,4,1,5,6,3], [2,4,1,6,3,5], [2,4,1,6,5,3], [2,4,3,1,5,6], [2,4,3,1,6,5],
  [2,4,3,5,1,6], [2,4,3,5,6,1], [2,4,3,6,1,5], [2,4,3,6,5,1]]
theorem ar6_8 : allOk 6 r6_8 := allOk_mk (k := 20) (by kernel_rfl) (fun s0 => by unfold r6_8; kernel_rfl)
def r6_9 : List (List Int) := [[2,4,5,1,3,6], [2,4,5,1,6,3], [2,4,5,3,1,6], [2,4,5,3,6,1], [2,4,5,6,1,3], [2,4,5,6,3,1], [2,4,6,1,3,5], [2,4,6,1,5,3],
  [2,4,6,3,1,5], [2,4,6,3,5,1], [2,4,6,5,1,3], [2,4,6,5,3,1], [2,5,1,3,4,6], [2,5,1,3,6,4], [2,5,1,4,3,6], [2,5,1,4,6,3],
  [2,5,1,6,3,4], [2,5,1,6,4,3], [2,5,3,1,4,6], [2,5,3,1,6,4]]
theorem ar6_9 : allOk 6 r6_9 := allOk_mk (k := 20) (by kernel_rfl) (fun s0 => by unfold r6_9; kernel_rfl)
def r6_10 : List (List Int) := [[2,5,3,4,1,6], [2,5,3,4,6,1], [2,5,3,6,1,4], [2,5,3,6,4,1], [2,5,4,1,3,6], [2,5,4,1,6,3], [2,5,4,3,1,6], [2,5,4,3,6,1],
  [2,5,4,6,1,3], [2,5,4,6,3,1], [2,5,6,1,3,4], [2,5,6,1,4,3], [2,5,6,3,1,4], [2,5,6,3,4,1], [2,5,6,4,1,3], [2,5,6,4,3,1],
  [2,6,1,3,4,5], [2,6,1,3,5,4], [2,6,1,4,3,5], [2,6,1,4,5,3]]
theorem ar6_10 : allOk 6 r6_10 := allOk_mk (k := 20) (by kernel_rfl) (fun s0 => by unfold r6_10; kernel_rfl)
def r6_11 : List (List Int) := [[2,6,1,5,3,4], [2,6,1,5,4,3], [2,6,3,1,4,5], [2,6,3,1,5,4], [2,6,3,4,1,5], [2,6,3,4,5,1], [2,6,3,5,1,4], [2,6,3,5,4,1],
  [2,6,4,1,3,5], [2,6,4,1,5,3], [2,6,4,3,1,5], [2,6,4,3,5,1], [2,6,4,5,1,3], [2,6,4,5,3,1], [2,6,5,1,3,4], [2,6,5,1,4,3],
  [2,6,5,3,1,4], [2,6,5,3,4,1], [2,6,5,4,1,3], [2,6,5,4,3,1]]
theorem ar6_11 : allOk 6 r6_11 := allOk_mk (k := 20) (by kernel_rfl) (fun s0 => by unfold r6_11; kernel_rfl)
def r6_12 : List (List Int) := [[3,1,2,4,5,6], [3,1,2,4,6,5], [3,1,2,5,4,6], [3,1,2,5,6,4], [3,1,2,6,4,5], [3,1,2,6,5,4], [3,1,4,2,5,6], [3,1,4,2,6,5],
  [3,1,4,5,2,6], [3,1,4,5,6,2], [3,1,4,6,2,5], [3,1,4,6,5,2], [3,1,5,2,4,6], [3,1,5,2,6,4], [3,1,5,4,2,6], [3,1,5,4,6,2],
  [3,1,5,6,2,4], [3,1,5,6,4,2], [3,1,6,2,4,5], [3,1,6,2,5,4]]
theorem ar6_12 : allOk 6 r6_12 := allOk_mk (k := 20) (by kernel_rfl) (fun s0 => by unfold r6_12; kernel_rfl)
def r6_13 : List (List Int) := [[3,1,6,4,2,5], [3,1,6,4,5,2], [3,1,6,5,2,4], [3,1,6,5,4,2], [3,2,1,4,5,6], [3,2,1,4,6,5], [3,2,1,5,4,6], [3,2,1,5,6,4],
  [3,2,1,6,4,5], [3,2,1,6,5,4], [3,2,4,1,5,6], [3,2,4,1,6,5], [3,2,4,5,1,6], [3,2,4,5,6,1], [3,2,4,6,1,5], [3,2,4,6,5,1],
  [3,2,5,1,4,6], [3,2,5,1,6,4], [3,2,5,4,1,6], [3,2,5,4,6,1]]
theorem ar6_13 : allOk 6 r6_13 := allOk_mk (k := 20) (by kernel_rfl) (fun s0 => by unfold r6_13; kernel_rfl)
def r6_14 : List (List Int) := [[3,2,5,6,1,4], [3,2,5,6,4,1], [3,2,6,1,4,5], [3,2,6,1,5,4], [3,2,6,4,1,5], [3,2,6,4,5,1], [3,2,6,5,1,4], [3,2,6,5,4,1],
  [3,4,1,2,5,6], [3,4,1,2,6,5], [3,4,1,5,2,6], [3,4,1,5,6,2], [3,4,1,6,2,5], [3,4,1,6,5,2], [3,4,2,1,5,6], [3,4,2,1,6,5],
  [3,4,2,5,1,6], [3,4,2,5,6,1], [3,4,2,6,1,5], [3,4,2,6,5,1]]
theorem ar6_14 : allOk 6 r6_14 := allOk_mk (k := 20) (by kernel_rfl) (fun s0 => by unfold r6_14; kernel_rfl)
def r6_15 : List (List Int) := [[3,4,5,1,2,6], [3,4,5,1,6,2], [3,4,5,2,1,6], [3,4,5,2,6,1], [3,4,5,6,1,2], [3,4,5,6,2,1], [3,4,6,1,2,5], [3,4,6,1,5,2],
  [3,4,6,2,1,5], [3,4,6,2,5,1], [3,4,6,5,1,2], [3,4,6,5,2,1], [3,5,1,2,4,6], [3,5,1,2,6,4], [3,5,1,4,2,6], [3,5,1,4,6,2],
  [3,5,1,6,2,4], [3,5,1,6,4,2], [3,5,2,1,4,6], [3,5,2,1,6,4]]
theorem ar6_15 : allOk 6 r6_15 := allOk_mk (k := 20) (by kernel_rfl) (fun s0 => by unfold r6_15; kernel_rfl)
def r6_16 : List (List Int) := [[3,5,2,4,1,6], [3,5,2,4,6,1], [3,5,2,6,1,4], [3,5,2,6,4,1], [3,5,4,1,2,6], [3,5,4,1,6,2], [3,5,4,2,1,6], [3,5,4,2,6,1],
  [3,5,4,6,1,2], [3,5,4,6,2,1], [3,5,6,1,2,4], [3,5,6,1,4,2], [3,5,6,2,1,4], [3,5,6,2,4,1], [3,5,6,4,1,2], [3,5,6,4,2,1],
  [3,6,1,2,4,5], [3,6,1,2,5,4], [3,6,1,4,2,5], [3,6,1,4,5,2]]
theorem ar6_16 : allOk 6 r6_16 := allOk_mk (k := 20) (by kernel_rfl) (fun s0 => by unfold r6_16; kernel_rfl)
def r6_17 : List (List Int) := [[3,6,1,5,2,4], [3,6,1,5,4,2], [3,6,2,1,4,5], [3,6,2,1,5,4], [3,6,2,4,1,5], [3,6,2,4,5,1], [3,6,2,5,1,4], [3,6,2,5,4,1],
  [3,6,4,1,2,5], [3,6,4,1,5,2], [3,6,4,2,1,5], [3,6,4,2,5,1], [3,6,4,5,1,2], [3,6,4,5,2,1], [3,6,5,1,2,4], [3,6,5,1,4,2],
  [3,6,5,2,1,4], [3,6,5,2,4,1], [3,6,5,4,1,2], [3,6,5,4,2,1]]
theorem ar6_17 : allOk 6 r6_17 := allOk_mk (k := 20) (by kernel_rfl) (fun s0 => by unfold r6_17; kernel_rfl)
def r6_18 : List (List Int) := [[4,1,2,3,5,6], [4,1,2,3,6,5], [4,1,2,5,3,6], [4,1,2,5,6,3], [4,1,2,6,3,5], [4,1,2,6,5,3], [4,1,3,2,5,6], [4,1,3,2,6,5],
  [4,1,3,5,2,6], [4,1,3,5,6,2], [4,1,3,6,2,5], [4,1,3,6,5,2], [4,1,5,2,3,6], [4,1,5,2,6,3], [4,1,5,3,2,6], [4,1,5,3,6,2],
  [4,1,5,6,2,3], [4,1,5,6,3,2], [4,1,6,2,3,5], [4,1,6,2,5,3]]
theorem ar6_18 : allOk 6 r6_18 := allOk_mk (k := 20) (by kernel_rfl) (fun s0 => by unfold r6_18; kernel_rfl)
def r6_19 : List (List Int) := [[4,1,6,3,2,5], [4,1,6,3,5,2], [4,1,6,5,2,3], [4,1,6,5,3,2], [4,2,1,3,5,6], [4,2,1,3,6,5], [4,2,1,5,3,6], [4,2,1,5,6,3],
  [4,2,1,6,3,5], [4,2,1,6,5,3], [4,2,3,1,5,6], [4,2,3,1,6,5], [4,2,3,5,1,6], [4,2,3,5,6,1], [4,2,3,6,1,5], [4,2,3,6,5,1],
  [4,2,5,1,3,6], [4,2,5,1,6,3], [4,2,5,3,1,6], [4,2,5,3,6,1]]
theorem ar6_19 : allOk 6 r6_19 := allOk_mk (k := 20) (by kernel_rfl) (fun s0 => by unfold r6_19; kernel_rfl)
def r6_20 : List (List Int) := [[4,2,5,6,1,3], [4,2,5,6,3,1], [4,2,6,1,3,5], [4,2,6,1,5,3], [4,2,6,3,1,5], [4,2,6,3,5,1], [4,2,6,5,1,3], [4,2,6,5,3,1],
  [4,3,1,2,5,6], [4,3,1,2,6,5], [4,3,1,5,2,6], [4,3,1,5,6,2], [4,3,1,6,2,5], [4,3,1,6,5,2], [4,3,2,1,5,6], [4,3,2,1,6,5],
  [4,3,2,5,1,6], [4,3,2,5,6,1], [4,3,2,6,1,5], [4,3,2,6,5,1]]
theorem ar6_20 : allOk 6 r6_20 := allOk_mk (k := 20) (by kernel_rfl) (fun s0 => by unfold r6_20; kernel_rfl)
def r6_21 : List (List Int) := [[4,3,5,1,2,6], [4,3,5,1,6,2], [4,3,5,2,1,6], [4,3,5,2,6,1], [4,3,5,6,1,2], [4,3,5,6,2,1], [4,3,6,1,2,5], [4,3,6,1,5,2],
  [4,3,6,2,1,5], [4,3,6,2,5,1], [4,3,6,5,1,2], [4,3,6,5,2,1], [4,5,1,2,3,6], [4,5,1,2,6,3], [4,5,1,3,2,6], [4,5,1,3,6,2],
  [4,5,1,6,2,3], [4,5,1,6,3,2], [4,5,2,1,3,6], [4,5,2,1,6,3]]
theorem ar6_21 : allOk 6 r6_21 := allOk_mk (k := 20) (by kernel_rfl) (fun s0 => by unfold r6_21; kernel_rfl)
def r6_22 : List (List Int) := [[4,5,2,3,1,6], [4,5,2,3,6,1], [4,5,2,6,1,3], [4,5,2,6,3,1], [4,5,3,1,2,6], [4,5,3,1,6,2], [4,5,3,2,1,6], [4,5,3,2,6,1],
  [4,5,3,6,1,2], [4,5,3,6,2,1], [4,5,6,1,2,3], [4,5,6,1,3,2], [4,5,6,2,1,3], [4,5,6,2,3,1], [4,5,6,3,1,2], [4,5,6,3,2,1],
  [4,6,1,2,3,5], [4,6,1,2,5,3], [4,6,1,3,2,5], [4,6,1,3,5,2]]
theorem ar6_22 : allOk 6 r6_22 := allOk_mk (k := 20) (by kernel_rfl) (fun s0 => by unfold r6_22; kernel_rfl)
def r6_23 : List (List Int) := [[4,6,1,5,2,3], [4,6,1,5,3,2], [4,6,2,1,3,5], [4,6,2,1,5,3], [4,6,2,3,1,5], [4,6,2,3,5,1], [4,6,2,5,1,3], [4,6,2,5,3,1],
  [4,6,3,1,2,5], [4,6,3,1,5,2], [4,6,3,2,1,5], [4,6,3,2,5,1], [4,6,3,5,1,2], [4,6,3,5,2,1], [4,6,5,1,2,3], [4,6,5,1,3,2],
  [4,6,5,2,1,3], [4,6,5,2,3,1], [4,6,5,3,1,2], [4,6,5,3,2,1]]
theorem ar6_23 : allOk 6 r6_23 := allOk_mk (k := 20) (by kernel_rfl) (fun s0 => by unfold r6_23; kernel_rfl)
def r6_24 : List (List Int) := [[5,1,2,3,4,6], [5,1,2,3,6,4], [5,1,2,4,3,6], [5,1,2,4,6,3], [5,1,2,6,3,4], [5,1,2,6,4,3], [5,1,3,2,4,6], [5,1,3,2,6,4],
  [5,1,3,4,2,6], [5,1,3,4,6,2], [5,1,3,6,2,4], [5,1,3,6,4,2], [5,1,4,2,3,6], [5,1,4,2,6,3], [5,1,4,3,2,6], [5,1,4,3,6,2],
  [5,1,4,6,2,3], [5,1,4,6,3,2], [5,1,6,2,3,4], [5,1,6,2,4,3]]
theorem ar6_24 : allOk 6 r6_24 := allOk_mk (k := 20) (by kernel_rfl) (fun s0 => by unfold r6_24; kernel_rfl)
def r6_25 : List (List Int) := [[5,1,6,3,2,4], [5,1,6,3,4,2], [5,1,6,4,2,3], [5,1,6,4,3,2], [5,2,1,3,4,6], [5,2,1,3,6,4], [5,2,1,4,3,6], [5,2,1,4,6,3],
  [5,2,1,6,3,4], [5,2,1,6,4,3], [5,2,3,1,4,6], [5,2,3,1,6,4], [5,2,3,4,1,6], [5,2,3,4,6,1], [5,2,3,6,1,4], [5,2,3,6,4,1],
  [5,2,4,1,3,6], [5,2,4,1,6,3], [5,2,4,3,1,6], [5,2,4,3,6,1]]
theorem ar6_25 : allOk 6 r6_25 := allOk_mk (k := 20) (by kernel_rfl) (fun s0 => by unfold r6_25; kernel_rfl)
def r6_26 : List (List Int) := [[5,2,4,6,1,3], [5,2,4,6,3,1], [5,2,6,1,3,4], [5,2,6,1,4,3], [5,2,6,3,1,4], [5,2,6,3,4,1], [5,2,6,4,1,3], [5,2,6,4,3,1],
  [5,3,1,2,4,6], [5,3,1,2,6,4], [5,3,1,4,2,6], [5,3,1,4,6,2], [5,3,1,6,2,4], [5,3,1,6,4,2], [5,3,2,1,4,6], [5,3,2,1,6,4],
  [5,3,2,4,1,6], [5,3,2,4,6,1], [5,3,2,6,1,4], [5,3,2,6,4,1]]
theorem ar6_26 : allOk 6 r6_26 := allOk_mk (k := 20) (by kernel_rfl) (fun s0 => by unfold r6_26; kernel_rfl)
def r6_27 : List (List Int) := [[5,3,4,1,2,6], [5,3,4,1,6,2], [5,3,4,2,1,6], [5,3,4,2,6,1], [5,3,4,6,1,2], [5,3,4,6,2,1], [5,3,6,1,2,4], [5,3,6,1,4,2],
  [5,3,6,2,1,4], [5,3,6,2,4,1], [5,3,6,4,1,2], [5,3,6,4,2,1], [5,4,1,2,3,6], [5,4,1,2,6,3], [5,4,1,3,2,6], [5,4,1,3,6,2],
  [5,4,1,6,2,3], [5,4,1,6,3,2], [5,4,2,1,3,6], [5,4,2,1,6,3]]
theorem ar6_27 : allOk 6 r6_27 := allOk_mk (k := 20) (by kernel_rfl) (fun s0 => by unfold r6_27; kernel_rfl)
def r6_28 : List (List Int) := [[5,4,2,3,1,6], [5,4,2,3,6,1], [5,4,2,6,1,3], [5,4,2,6,3,1], [5,4,3,1,2,6], [5,4,3,1,6,2], [5,4,3,2,1,6], [5,4,3,2,6,1],
  [5,4,3,6,1,2], [5,4,3,6,2,1], [5,4,6,1,2,3], [5,4,6,1,3,2], [5,4,6,2,1,3], [5,4,6,2,3,1], [5,4,6,3,1,2], [5,4,6,3,2,1],
  [5,6,1,2,3,4], [5,6,1,2,4,3], [5,6,1,3,2,4], [5,6,1,3,4,2]]
theorem ar6_28 : allOk 6 r6_28 := allOk_mk (k := 20) (by kernel_rfl) (fun s0 => by unfold r6_28; kernel_rfl)
def r6_29 : List (List Int) := [[5,6,1,4,2,3], [5,6,1,4,3,2], [5,6,2,1,3,4], [5,6,2,1,4,3], [5,6,2,3,1,4], [5,6,2,3,4,1], [5,6,2,4,1,3], [5,6,2,4,3,1],
  [5,6,3,1,2,4], [5,6,3,1,4,2], [5,6,3,2,1,4], [5,6,3,2,4,1], [5,6,3,4,1,2], [5,6,3,4,2,1], [5,6,4,1,2,3], [5,6,4,1,3,2],
  [5,6,4,2,1,3], [5,6,4,2,3,1], [5,6,4,3,1,2], [5,6,4,3,2,1]]
theorem ar6_29 : allOk 6 r6_29 := allOk_mk (k := 20) (by kernel_rfl) (fun s0 => by unfold r6_29; kernel_rfl)
def r6_30 : List (List Int) := [[6,1,2,3,4,5], [6,1,2,3,5,4], [6,1,2,4,3,5], [6,1,2,4,5,3], [6,1,2,5,3,4], [6,1,2,5,4,3], [6,1,3,2,4,5], [6,1,3,2,5,4],
  [6,1,3,4,2,5], [6,1,3,4,5,2], [6,1,3,5,2,4], [6,1,3,5,4,2], [6,1,4,2,3,5], [6,1,4,2,5,3], [6,1,4,3,2,5], [6,1,4,3,5,2],
  [6,1,4,5,2,3], [6,1,4,5,3,2], [6,1,5,2,3,4], [6,1,5,2,4,3]]
theorem ar6_30 : allOk 6 r6_30 := allOk_mk (k := 20) (by kernel_rfl) (fun s0 => by unfold r6_30; kernel_rfl)
def r6_31 : List (List Int) := [[6,1,5,3,2,4], [6,1,5,3,4,2], [6,1,5,4,2,3], [6,1,5,4,3,2], [6,2,1,3,4,5], [6,2,1,3,5,4], [6,2,1,4,3,5], [6,2,1,4,5,3],
  [6,2,1,5,3,4], [6,2,1,5,4,3], [6,2,3,1,4,5], [6,2,3,1,5,4], [6,2,3,4,1,5], [6,2,3,4,5,1], [6,2,3,5,1,4], [6,2,3,5,4,1],
  [6,2,4,1,3,5], [6,2,4,1,5,3], [6,2,4,3,1,5], [6,2,4,3,5,1]]
theorem ar6_31 : allOk 6 r6_31 := allOk_mk (k := 20) (by kernel_rfl) (fun s0 => by unfold r6_31; kernel_rfl)
def r6_32 : List (List Int) := [[6,2,4,5,1,3], [6,2,4,5,3,1], [6,2,5,1,3,4], [6,2,5,1,4,3], [6,2,5,3,1,4], [6,2,5,3,4,1], [6,2,5,4,1,3], [6,2,5,4,3,1],
  [6,3,1,2,4,5], [6,3,1,2,5,4], [6,3,1,4,2,5], [6,3,1,4,5,2], [6,3,1,5,2,4], [6,3,1,5,4,2], [6,3,2,1,4,5], [6,3,2,1,5,4],
  [6,3,2,4,1,5], [6,3,2,4,5,1], [6,3,2,5,1,4], [6,3,2,5,4,1]]
theorem ar6_32 : allOk 6 r6_32 := allOk_mk (k := 20) (by kernel_rfl) (fun s0 => by unfold r6_32; kernel_rfl)
def r6_33 : List (List Int) := [[6,3,4,1,2,5], [6,3,4,1,5,2], [6,3,4,2,1,5], [6,3,4,2,5,1], [6,3,4,5,1,2], [6,3,4,5,2,1], [6,3,5,1,2,4], [6,3,5,1,4,2],
  [6,3,5,2,1,4], [6,3,5,2,4,1], [6,3,5,4,1,2], [6,3,5,4,2,1], [6,4,1,2,3,5], [6,4,1,2,5,3], [6,4,1,3,2,5], [6,4,1,3,5,2],
  [6,4,1,5,2,3], [6,4,1,5,3,2], [6,4,2,1,3,5], [6,4,2,1,5,3]]
theorem ar6_33 : allOk 6 r6_33 := allOk_mk (k := 20) (by kernel_rfl) (fun s0 => by unfold r6_33; kernel_rfl)
def r6_34 : List (List Int) := [[6,4,2,3,1,5], [6,4,2,3,5,1], [6,4,2,5,1,3], [6,4,2,5,3,1], [6,4,3,1,2,5], [6,4,3,1,5,2], [6,4,3,2,1,5], [6,4,3,2,5,1],
  [6,4,3,5,1,2], [6,4,3,5,2,1], [6,4,5,1,2,3], [6,4,5,1,3,2], [6,4,5,2,1,3], [6,4,5,2,3,1], [6,4,5,3,1,2], [6,4,5,3,2,1],
  [6,5,1,2,3,4], [6,5,1,2,4,3], [6,5,1,3,2,4], [6,5,1,3,4,2]]
theorem ar6_34 : allOk 6 r6_34 := allOk_mk (k := 20) (by kernel_rfl) (fun s0 => by unfold r6_34; kernel_rfl)
def r6_35 : List (List Int) := [[6,5,1,4,2,3], [6,5,1,4,3,2], [6,5,2,1,3,4], [6,5,2,1,4,3], [6,5,2,3,1,4], [6,5,2,3,4,1], [6,5,2,4,1,3], [6,5,2,4,3,1],
  [6,5,3,1,2,4], [6,5,3,1,4,2], [6,5,3,2,1,4], [6,5,3,2,4,1], [6,5,3,4,1,2], [6,5,3,4,2,1], [6,5,4,1,2,3], [6,5,4,1,3,2],
  [6,5,4,2,1,3], [6,5,4,2,3,1], [6,5,4,3,1,2], [6,5,4,3,2,1]]
theorem ar6_35 : allOk 6 r6_35 := allOk_mk (k := 20) (by kernel_rfl) (fun s0 => by unfold r6_35; kernel_rfl)
theorem all_r6 : allOk 6 (draws 6 (upto 6)) := by
  have e : draws 6 (upto 6) = r6_0 ++ (r6_1 ++ (r6_2 ++ (r6_3 ++ (r6_4 ++ (r6_5 ++ (r6_6 ++ (r6_7 ++ (r6_8 ++ (r6_9 ++ (r6_10 ++ (r6_11 ++ (r6_12 ++ (r6_13 ++ (r6_14 ++ (r6_15 ++ (r6_16 ++ (r6_17 ++ (r6_18 ++ (r6_19 ++ (r6_20 ++ (r6_21 ++ (r6_22 ++ (r6_23 ++ (r6_24 ++ (r6_25 ++ (r6_26 ++ (r6_27 ++ (r6_28 ++ (r6_29 ++ (r6_30 ++ (r6_31 ++ (r6_32 ++ (r6_33 ++ (r6_34 ++ (r6_35))))))))))))))))))))))))))))))))))) := by decide +kernel
  rw [e]
  exact (allOk_app ar6_0 (allOk_app ar6_1 (allOk_app ar6_2 (allOk_app ar6_3 (allOk_app ar6_4 (allOk_app ar6_5 (allOk_app ar6_6 (allOk_app ar6_7 (allOk_app ar6_8 (allOk_app ar6_9 (allOk_app ar6_10 (allOk_app ar6_11 (allOk_app ar6_12 (allOk_app ar6_13 (allOk_app ar6_14 (allOk_app ar6_15 (allOk_app ar6_16 (allOk_app ar6_17 (allOk_app ar6_18 (allOk_app ar6_19 (allOk_app ar6_20 (allOk_app ar6_21 (allOk_app ar6_22 (allOk_app ar6_23 (allOk_app ar6_24 (allOk_app ar6_25 (allOk_app ar6_26 (allOk_app ar6_27 (allOk_app ar6_28 (allOk_app ar6_29 (allOk_app ar6_30 (allOk_app ar6_31 (allOk_app ar6_32 (allOk_app ar6_33 (allOk_app ar6_34 ar6_35)))))))))))))))))))))))))))))))))))
end DP

namespace DP
open PySem
def scr (ns : List Int) : D := .scr (ns.map D.int)
theorem len_scr (ns : List Int) : lenF [scr ns] = some (.val (.int (ns.length : Nat))) := by
  show ov (.int ((ns.map D.int).length : Nat)) = _
  rw [List.length_map]
  rfl
theorem lt_some (i j : Int) : ltF (.int i) (.int j) = some (.val (.bl (decide (i < j)))) := rfl
theorem mul_small {i j : Int} (h1 : i.natAbs < 2 ^ 200) (h2 : j.natAbs < 2 ^ 200) : mulF (.int i) (.int j) = some (.val (.int (i * j))) := by
  have l1 : i.natAbs.log2 < 200 := by
    by_cases h0 : i.natAbs = 0
    · rw [h0]; decide
    · exact (Nat.log2_lt h0).mpr h1
  have l2 : j.natAbs.log2 < 200 := by
    by_cases h0 : j.natAbs = 0
    · rw [h0]; decide
    · exact (Nat.log2_lt h0).mpr h2
  show (if mulOk i j = true then ov (.int (i * j)) else none) = _
  have : mulOk i j = true := by
    unfold mulOk
    exact decide_eq_true
        (by omega)
  rw [if_pos this]
  rfl
theorem cell_ok (ns : List Int) (k : Nat) (hk : k ≤ 3) (hn : ns.length ≤ 63) : ∃ z : Int, m__law_cell [scr ns, .int k] = .ok (.int z) := by
  have hc : TV (DP.tE (DP.eBin DP.ltF (DP.eV 1) (DP.eCB DP.lenF (DP.aCons (DP.eV 0) DP.aNil)))) [.sh (scr ns), .sh (.int k)] (decide ((k : Int) < ns.length)) :=
    tv_e (ev_bin (ev_V rfl) (ev_cb (av_cons (ev_V rfl) av_nil) (len_scr ns)) (lt_some _ _))
  by_cases h : k < ns.length
  · refine ⟨ns[k], ?_⟩
    have hx : ixF (scr ns) (.int k) = some (.val (.int ns[k])) := by
      show (ixD (ns.map D.int) k).map Opd.val = _
      have : ixD (ns.map D.int) k = some (.int ns[k]) := by
        unfold ixD
        rw [if_pos (by omega), if_pos (by rw [List.length_map]; omega)]
        simp [h]
      rw [this]
      rfl
    have hd : d__law_cell [.sh (scr ns), .sh (.int k)] = .ret (.int ns[k]) := by
      unfold d__law_cell sSeq
      rw [sv_if hc (r := .ret (.int ns[k])) (by rw [decide_eq_true (show (k : Int) < ns.length by omega)]; exact s_ret (ev_bin (ev_V rfl) (ev_V rfl) hx))]
    exact run_ret rfl hd
  · refine ⟨17 * k + 3 * (ns.length : Nat) + 1, ?_⟩
    have hd : d__law_cell [.sh (scr ns), .sh (.int k)] = .ret (.int (17 * k + 3 * (ns.length : Nat) + 1)) := by
      unfold d__law_cell
      refine sv_seq (sv_if hc (r := .next [.sh (scr ns), .sh (.int k)]) (by rw [decide_eq_false (show ¬ (k : Int) < ns.length by omega)]; rfl)) ?_
      refine s_ret (ev_bin (ev_bin (ev_bin ev_C (ev_V rfl) (mul_small (by decide) ?_)) (ev_bin ev_C (ev_cb (av_cons (ev_V rfl) av_nil) (len_scr ns)) (mul_small (by decide) ?_)) rfl) ev_C rfl)
      · exact Nat.lt_of_le_of_lt (show (k : Int).natAbs ≤ 3 by omega) (by decide)
      · exact Nat.lt_of_le_of_lt (show ((ns.length : Nat) : Int).natAbs ≤ 63 by omega) (by decide)
    exact run_ret rfl hd
theorem mod_pos {i j : Int} (h : 0 < j) : modF (.int i) (.int j) = some (.val (.int (i % j))) := by
  show (if 0 < j then ov (.int (i % j)) else none) = _
  rw [if_pos h]
  rfl
theorem fdiv_pos {i j : Int} (h : 0 < j) (h2 : j.natAbs < 2 ^ 200) : fdivF (.int i) (.int j) = some (.val (.int (i / j))) := by
  have l2 : j.natAbs.log2 < 200 := (Nat.log2_lt (by omega)).mpr h2
  show (if (decide (0 < j) && decide (j.natAbs.log2 < 9000)) = true then ov (.int (i / j)) else none) = _
  rw [if_pos (by rw [decide_eq_true h, decide_eq_true (show j.natAbs.log2 < 9000 by omega)]; rfl)]
  rfl
theorem number_ok (ns : List Int) (hn : ns.length ≤ 63) : ∃ z : Int, m__law_number [scr ns, .int 1] = .ok (.int z) := by
  obtain ⟨z0, h0⟩ := cell_ok ns 1 (by decide) hn
  have ha : absF [.int z0] = some (.val (.int (if z0 < 0 then -z0 else z0))) := rfl
  generalize (if z0 < 0 then -z0 else z0) = y at ha
  have run : ∀ {r : D}, d__law_number [.sh (scr ns), .sh (.int 1), .no] = .ret r → m__law_number [scr ns, .int 1] = .ok r := fun {r} h => run_ret rfl h
  have h10 : powF (.int 10) (.int 18) = some (.val (.int (10 ^ 18))) := by kernel_rfl
  have s1 : SV (DP.sSet 2 (DP.eCB DP.absF (DP.aCons (DP.eCall m__law_cell (DP.aCons (DP.eV 0) (DP.aCons (DP.eV 1) DP.aNil))) DP.aNil))) [.sh (scr ns), .sh (.int 1), .no] [.sh (scr ns), .sh (.int 1), .sh (.int y)] :=
    sv_set (ev_cb (av_cons (ev_call (av_cons (ev_V rfl) (av_cons (ev_V rfl) av_nil)) h0) av_nil) ha)
  have hc : TV (DP.tE (DP.eBin DP.ltF (DP.eV 2) (DP.eBin DP.powF (DP.eC (.int 10)) (DP.eC (.int 18))))) [.sh (scr ns), .sh (.int 1), .sh (.int y)] (decide (y < 10 ^ 18)) := tv_e (ev_bin (ev_V rfl) (ev_bin ev_C ev_C h10) (lt_some _ _))
  by_cases hy : y < 10 ^ 18 ∧ -(10 ^ 18) < y
  · obtain ⟨hy, hy2⟩ := hy
    refine ⟨_, run (sv_seq s1 (sv_seq (sv_if (Γ := [.sh (scr ns), .sh (.int 1), .sh (.int y)]) hc (by
      rw [decide_eq_true hy]
      rw [if_pos rfl]
      refine sv_seq (sv_set (ev_bin (ev_bin (ev_bin (ev_V rfl) ev_C rfl) (ev_bin (ev_V rfl) ev_C rfl) (mul_small ?_ ?_)) (ev_bin ev_C (ev_V rfl) (mul_small (by decide) (by decide))) rfl)) (sv_set (ev_bin (ev_bin (ev_V rfl) (ev_bin (ev_bin (ev_cb (av_cons (ev_V rfl) av_nil) rfl) ev_C (mod_pos (by decide))) ev_C rfl) (mul_small ?_ ?_)) (ev_bin (ev_V rfl) ev_C (fdiv_pos (by decide) (by decide))) rfl))
      · omega
      · omega
      · have e1 : (y + 5).natAbs < 2 ^ 61 := by omega
        have e2 : (y + 48271).natAbs < 2 ^ 61 := by omega
        have e3 : ((y + 5) * (y + 48271)).natAbs < 2 ^ 122 := by
          rw [Int.natAbs_mul]
          exact Nat.lt_of_lt_of_le (Nat.mul_lt_mul'' e1 e2) (by decide)
        generalize (y + 5) * (y + 48271) = q at e3 ⊢
        have : (69621 * 1 : Int) = 69621 := rfl
        rw [this]
        have h122 : (2 : Nat) ^ 122 + 69621 < 2 ^ 200 := by decide
        omega
      · have h3 := Int.emod_nonneg ((y + 5) * (y + 48271) + 69621 * 1) (show (65537 : Int) ≠ 0 by decide)
        have h4 := Int.emod_lt_of_pos ((y + 5) * (y + 48271) + 69621 * 1) (show (0 : Int) < 65537 by decide)
        generalize ((y + 5) * (y + 48271) + 69621 * 1) % 65537 = q at h3 h4 ⊢
        exact Nat.lt_of_lt_of_le (show (q + 11).natAbs < 100000 by omega) (by decide))) (s_ret (ev_V rfl))))⟩
  · by_cases hy1 : y < 10 ^ 18
    · exfalso
      have : 0 ≤ y := by
        have ha' : (if z0 < 0 then -z0 else z0) = y := by
          have e : absF [.int z0] = some (.val (.int (if z0 < 0 then -z0 else z0))) := rfl
          rw [e] at ha
          simpa using ha
        split at ha' <;> omega
      exact hy ⟨hy1, by omega⟩
    · refine ⟨y, run (sv_seq s1 (sv_seq (sv_if (r := .next [.sh (scr ns), .sh (.int 1), .sh (.int y)]) hc (by rw [decide_eq_false hy1]; rfl)) (s_ret (ev_V rfl))))⟩

/-! the drawn row -/
def bodyDr : DP.S := (DP.sSeq (DP.sSet 5 (DP.eCB DP.lenF (DP.aCons (DP.eV 2) DP.aNil)))
    (DP.sSeq (DP.sDrop (DP.eMut DP.appendM 3 (DP.aCons (DP.eMut DP.popAtM 2 (DP.aCons (DP.eBin DP.modF (DP.eCB DP.intF (DP.aCons (DP.eV 0) DP.aNil)) (DP.eV 5)) DP.aNil)) DP.aNil)))
    (DP.sSet 0 (DP.eBin DP.fdivF (DP.eV 0) (DP.eV 5)))))
theorem erase_map {α β : Type} (f : α → β) : ∀ (l : List α) (i : Nat), (l.map f).eraseIdx i = (l.eraseIdx i).map f
  | [], _ => rfl
  | _ :: _, 0 => rfl
  | x :: l, i + 1 => congrArg (f x :: ·) (erase_map f l i)
def lsD (l : List Int) : D := .lst (l.map D.int)
theorem step_dr (z c : Int) (left row : List Int) (s4 s5 : Slot) (h0 : 0 < left.length) (h1 : left.length ≤ 6) (h2 : row.length ≤ 6) :
    bodyDr [.sh (.int z), .sh (.int c), .ow (lsD left), .ow (lsD row), s4, s5] =
      .next [.sh (.int (z / left.length)), .sh (.int c), .ow (lsD (left.eraseIdx (z % left.length).toNat)), .ow (lsD (row ++ [left.getD (z % left.length).toNat 0])), s4, .sh (.int left.length)] := by
  have hm0 := Int.emod_nonneg z (show (left.length : Int) ≠ 0 by omega)
  have hm1 := Int.emod_lt_of_pos z (show (0 : Int) < left.length by omega)
  have hlen : lenF [lsD left] = some (.val (.int (left.length : Nat))) := by
    show ov (.int ((left.map D.int).length : Nat)) = _
    rw [List.length_map]
    rfl
  have b1 : (DP.sSet 5 (DP.eCB DP.lenF (DP.aCons (DP.eV 2) DP.aNil))) [.sh (.int z), .sh (.int c), .ow (lsD left), .ow (lsD row), s4, s5] = .next [.sh (.int z), .sh (.int c), .ow (lsD left), .ow (lsD row), s4, .sh (.int left.length)] := by
    show ((opt (lenF [lsD left]) [Slot.sh (.int z), .sh (.int c), .ow (lsD left), .ow (lsD row), s4, s5]).toSB (setR 5)) = _
    rw [hlen]
    rfl
  have hpop : popAtM (lsD left) [.int (z % left.length)] = some (.int (left.getD (z % left.length).toNat 0), lsD (left.eraseIdx (z % left.length).toNat)) := by
    have hi : (z % left.length).toNat < left.length := by omega
    show (if (decide (0 ≤ z % left.length) && decide (z % left.length < ((left.map D.int).length : Nat)) && decide ((left.map D.int).length < 1000000)) = true then
      (match (left.map D.int)[(z % left.length).toNat]? with | some y => some (y, D.lst ((left.map D.int).eraseIdx (z % left.length).toNat)) | none => none) else none) = _
    rw [List.length_map, decide_eq_true hm0, decide_eq_true hm1, decide_eq_true (show left.length < 1000000 by omega), if_pos (show (true && true && true) = true from rfl), List.getElem?_map, List.getElem?_eq_getElem hi]
    simp only [Option.map_some]
    unfold lsD
    rw [erase_map, List.getD_eq_getElem?_getD, List.getElem?_eq_getElem hi]
    rfl
  have hap : appendM (lsD row) [.int (left.getD (z % left.length).toNat 0)] = some (.non, lsD (row ++ [left.getD (z % left.length).toNat 0])) := by
    show (if (row.map D.int).length < 1000000 then some (D.non, D.lst (row.map D.int ++ [.int (left.getD (z % left.length).toNat 0)])) else none) = _
    rw [List.length_map, if_pos (by omega)]
    unfold lsD
    rw [List.map_append]
    rfl
  have e1 : (DP.eMut DP.popAtM 2 (DP.aCons (DP.eBin DP.modF (DP.eCB DP.intF (DP.aCons (DP.eV 0) DP.aNil)) (DP.eV 5)) DP.aNil)) [.sh (.int z), .sh (.int c), .ow (lsD left), .ow (lsD row), s4, .sh (.int left.length)] =
      .ok (.val (.int (left.getD (z % left.length).toNat 0))) [.sh (.int z), .sh (.int c), .ow (lsD (left.eraseIdx (z % left.length).toNat)), .ow (lsD row), s4, .sh (.int left.length)] :=
    ev_mut (ds := [.int (z % left.length)]) rfl (av_cons (ev_bin (ev_cb (av_cons (ev_V rfl) av_nil) rfl) (ev_V rfl) (mod_pos (by omega))) av_nil) rfl hpop
  have e2 : (DP.eMut DP.appendM 3 (DP.aCons (DP.eMut DP.popAtM 2 (DP.aCons (DP.eBin DP.modF (DP.eCB DP.intF (DP.aCons (DP.eV 0) DP.aNil)) (DP.eV 5)) DP.aNil)) DP.aNil)) [.sh (.int z), .sh (.int c), .ow (lsD left), .ow (lsD row), s4, .sh (.int left.length)] =
      .ok (.val .non) [.sh (.int z), .sh (.int c), .ow (lsD (left.eraseIdx (z % left.length).toNat)), .ow (lsD (row ++ [left.getD (z % left.length).toNat 0])), s4, .sh (.int left.length)] := by
    refine ev_mut (Γ1 := [.sh (.int z), .sh (.int c), .ow (lsD (left.eraseIdx (z % left.length).toNat)), .ow (lsD row), s4, .sh (.int left.length)]) (ds := [.int (left.getD (z % left.length).toNat 0)]) rfl ?_ rfl hap
    exact congrArg (fun r => DP.R.bind r fun x Γ1 => (aNil Γ1).bind fun xs Γ2 => DP.R.ok (x :: xs) Γ2) e1
  unfold bodyDr
  unfold sSeq
  rw [b1]
  dsimp only
  have e3 : (DP.sDrop (DP.eMut DP.appendM 3 (DP.aCons (DP.eMut DP.popAtM 2 (DP.aCons (DP.eBin DP.modF (DP.eCB DP.intF (DP.aCons (DP.eV 0) DP.aNil)) (DP.eV 5)) DP.aNil)) DP.aNil))) [.sh (.int z), .sh (.int c), .ow (lsD left), .ow (lsD row), s4, .sh (.int left.length)] = .next [.sh (.int z), .sh (.int c), .ow (lsD (left.eraseIdx (z % left.length).toNat)), .ow (lsD (row ++ [left.getD (z % left.length).toNat 0])), s4, .sh (.int left.length)] := by
    unfold sDrop
    rw [e2]
    rfl
  rw [e3]
  dsimp only
  exact sv_set (ev_bin (ev_V rfl) (ev_V rfl) (fdiv_pos (by omega) (Nat.lt_of_le_of_lt (show ((left.length : Nat) : Int).natAbs ≤ 6 by omega) (by decide))))
theorem loop_dr (c : Int) : ∀ (xs : List D) (z : Int) (left row : List Int) (s4 s5 : Slot), left.length = xs.length → left.length + row.length ≤ 6 →
    ∃ (z' : Int) (s4' s5' : Slot) (l' q : List Int), q ∈ draws xs.length left ∧ forLoop (gN 4) bodyDr xs [.sh (.int z), .sh (.int c), .ow (lsD left), .ow (lsD row), s4, s5] = .next [.sh (.int z'), .sh (.int c), .ow (lsD l'), .ow (lsD (row ++ q)), s4', s5']
  | [], z, left, row, s4, s5, hl, _ => ⟨z, s4, s5, left, [], List.mem_singleton.mpr rfl, by rw [List.append_nil]; rfl⟩
  | x :: xs, z, left, row, s4, s5, hl, h6 => by
    have hl : left.length = xs.length + 1 := hl
    have hm0 := Int.emod_nonneg z (show (left.length : Int) ≠ 0 by omega)
    have hm1 := Int.emod_lt_of_pos z (show (0 : Int) < left.length by omega)
    have hi : (z % left.length).toNat < left.length := by omega
    obtain ⟨z', s4', s5', l', q, hq, hrun⟩ := loop_dr c xs (z / left.length) (left.eraseIdx (z % left.length).toNat) (row ++ [left.getD (z % left.length).toNat 0]) (.sh x) (.sh (.int left.length)) (by rw [List.length_eraseIdx_of_lt hi]; omega) (by rw [List.length_eraseIdx_of_lt hi, List.length_append]; show left.length - 1 + (row.length + 1) ≤ 6; omega)
    refine ⟨z', s4', s5', l', left.getD (z % left.length).toNat 0 :: q, ?_, ?_⟩
    · show _ ∈ draws (xs.length + 1) left
      unfold draws
      rw [List.mem_flatMap]
      refine ⟨(z % left.length).toNat, List.mem_range.mpr hi, ?_⟩
      rw [List.getElem?_eq_getElem hi]
      dsimp only
      rw [List.getD_eq_getElem?_getD,
          List.getElem?_eq_getElem hi]
      exact List.mem_map.mpr ⟨q, hq, rfl⟩
    · unfold forLoop
      show (match bodyDr [.sh (.int z), .sh (.int c), .ow (lsD left), .ow (lsD row), .sh x, s5] with | .next Γ2 => forLoop (gN 4) bodyDr xs Γ2 | .cont Γ2 => forLoop (gN 4) bodyDr xs Γ2 | .brk Γ2 => .next Γ2 | .ret d => .ret d | .exc c fs Γ2 => .exc c fs Γ2 | .stuck => .stuck) = _
      rw [step_dr z c left row (.sh x) s5 (by omega) (by omega) (by omega)]
      dsimp only
      rw [hrun, List.append_assoc]
      rfl
theorem zInts_map (n : Nat) (hn : n ≤ 6) : zInts 1 n = (upto n).map D.int := by
  have : ∀ m < 7, zInts 1 m = (upto m).map D.int := by
    intro m hm
    match m, hm with
    | 0, _ => rfl
    | 1, _ => rfl
    | 2, _ => rfl
    | 3, _ => rfl
    | 4, _ => rfl
    | 5, _ => rfl
    | 6, _ => rfl
  exact this n (by omega)
theorem drawn_ok (z : Int) (n : Nat) (hn : n ≤ 6) : ∃ p ∈ draws n (upto n), m__law_drawn [.int z, .int n] = .ok (.tup (p.map D.int)) := by
  have hu : (upto n).length = n := by unfold upto; rw [List.length_map, List.length_range]
  have hrg : listRgF 1 ((n : Int) + 1) = some (.fresh (lsD (upto n))) := by
    unfold listRgF
    have : rgOk 1 ((n : Int) + 1) = true := by
      unfold rgOk inLine
      simp only [Bool.and_eq_true,
          decide_eq_true_eq]
      omega
    rw [if_pos this]
    have e : ((n : Int) + 1 - 1).toNat = n := by omega
    rw [e, zInts_map n hn]
    rfl
  have hlz : ∀ (m : Nat) (l : Int), (zInts l m).length = m := by
    intro m
    induction m with
    | zero => intro l; rfl
    | succ m ih => intro l; show (zInts (l + 1) m).length + 1 = _; rw [ih]
  obtain ⟨z', s4', s5', l', q, hq, hrun⟩ := loop_dr n (zInts 0 n) z (upto n) [] .no .no (by rw [hlz, hu]) (by rw [hu]; exact hn)
  rw [hlz] at hq
  have hin : inLine (n : Int) = true := by
    unfold inLine
    simp only [Bool.and_eq_true,
        decide_eq_true_eq]
    omega
  refine ⟨q, hq, run_ret rfl (?_ : d__law_drawn [.sh (.int z), .sh (.int n), .no, .no, .no, .no] = _)⟩
  refine sv_seq (set_fresh (ev_rg ev_C (ev_bin (ev_V rfl) ev_C rfl) hrg)) ?_
  refine sv_seq (show DP.sSet 3 (DP.eLst DP.aNil) [.sh (.int z), .sh (.int n), .ow (lsD (upto n)), .no, .no, .no] = .next [.sh (.int z), .sh (.int n), .ow (lsD (upto n)), .ow (lsD []), .no, .no] from rfl) ?_
  refine sv_seq ((for_ok (r1_ok (ev_V rfl) hin)).trans hrun) ?_
  rfl

/-! the refused size -/
theorem check_bad (s : Int) (h : s < 1 ∨ 3 < s) : m_check_size [.int s] = .exc "WrongSize" [] := by
  have hn : notInF (.int s) g_SIZES = some (.val (.bl true)) := by
    have e1 : ((1 : Int) == s) = false := by simpa using (show ¬ (1 : Int) = s by omega)
    have e2 : ((2 : Int) == s) = false := by simpa using (show ¬ (2 : Int) = s by omega)
    have e3 : ((3 : Int) == s) = false := by simpa using (show ¬ (3 : Int) = s by omega)
    show ov (.bl (!(eqD (.int 1) (.int s) || (eqD (.int 2) (.int s) || (eqD (.int 3) (.int s) || false))))) = _
    simp only [eqD, e1, e2, e3]
    rfl
  exact run_exc rfl (Γ := [.sh (.int s)]) (sv_if (Γ := [.sh (.int s)]) (tv_e (ev_bin (ev_V rfl) ev_C hn)) rfl)
theorem good_bad (P : D) (s : Int) (h : s < 1 ∨ 3 < s) : m_is_good [P, .int s] = .exc "WrongSize" [] :=
  run_exc rfl (Γ := [.sh P, .sh (.int s)]) (seq_exc (drop_exc (call_exc (av_cons (ev_V rfl) av_nil) (check_bad s h))))
theorem refused_ok (P : D) (s : Int) (h : s < 1 ∨ 3 < s) : m__law_refused [P, .int s] = .ok (.bl true) := by
  refine run_ret rfl (?_ : d__law_refused [.sh P, .sh (.int s), .no] = _)
  have e1 : DP.sDrop (DP.eCall m_is_good (DP.aCons (DP.eV 0) (DP.aCons (DP.eV 1) DP.aNil))) [.sh P, .sh (.int s), .no] = .exc "WrongSize" [] [.sh P, .sh (.int s), .no] :=
    drop_exc (call_exc (av_cons (ev_V rfl) (av_cons (ev_V rfl) av_nil)) (good_bad P s h))
  have e2 : (DP.sRet (DP.eAnd (DP.eIsX sub_TableError 2) (DP.eNot (DP.eIsX sub_WrongKind 2)))) [.sh P, .sh (.int s), .ex "WrongSize" []] = .ret (.bl true) := by kernel_rfl
  have e3 : subx_WrongSize "WrongSize" = some true := by kernel_rfl
  have e4 : DP.sTry subx_WrongSize 2 (DP.sDrop (DP.eCall m_is_good (DP.aCons (DP.eV 0) (DP.aCons (DP.eV 1) DP.aNil)))) (DP.sRet (DP.eAnd (DP.eIsX sub_TableError 2) (DP.eNot (DP.eIsX sub_WrongKind 2)))) [.sh P, .sh (.int s), .no] = .ret (.bl true) := by
    unfold sTry
    rw [e1]
    dsimp only
    rw [e3]
    dsimp only
    show (match (DP.sRet (DP.eAnd (DP.eIsX sub_TableError 2) (DP.eNot (DP.eIsX sub_WrongKind 2)))) [.sh P, .sh (.int s), .ex "WrongSize" []] with
      | .next Γ2 => SR.next (unEx 2 Γ2) | .brk Γ2 => .brk (unEx 2 Γ2) | .cont Γ2 => .cont (unEx 2 Γ2) | .ret d => .ret d | _ => .stuck) = _
    rw [e2]
  unfold d__law_refused sSeq
  rw [e4]

/-! the tail -/
theorem tail_ok (ns : List Int) (hn : ns.length ≤ 63) (p r : List Int) (most : Int) (a1 a3 a5 a6 a7 a8 a10 a11 a12 a13 : Slot) (hc : m_colours [.tup (p.map D.int)] = .ok (.tup (r.map D.int))) (hl : m_longest_decreasing [.tup (p.map D.int)] = .ok (.int most)) :
    tailK [.sh (scr ns), a1, .sh (.tup (p.map D.int)), a3, .sh (.tup (r.map D.int)), a5, a6, a7, a8, .sh (.int most), a10, a11, a12, a13] = .ret (.bl true) := by
  obtain ⟨z3, h3⟩ := cell_ok ns 3 (by decide) hn
  have end_ok : ∀ s : Int, sSeq z16 z17 [.sh (scr ns), a1, .sh (.tup (p.map D.int)), a3, .sh (.tup (r.map D.int)), a5, a6, a7, a8, .sh (.int most), a10, a11, .sh (.int s), a13] = .ret (.bl true) := by
    intro s
    have last : z17 [.sh (scr ns), a1, .sh (.tup (p.map D.int)), a3, .sh (.tup (r.map D.int)), a5, a6, a7, a8, .sh (.int most), a10, a11, .sh (.int s), a13] = .ret (.bl true) := by
      unfold z17
      have e := eqF_int most most
      rw [decide_eq_true rfl] at e
      exact s_ret (ev_and (k := true) (k2 := true) (ev_bin (ev_call (av_cons (ev_V rfl) av_nil) hc) (ev_V rfl) (eqF_ints r)) fun _ => ev_bin (ev_call (av_cons (ev_V rfl) av_nil) hl) (ev_V rfl) e)
    refine sv_seq (Γ' := [.sh (scr ns), a1, .sh (.tup (p.map D.int)), a3, .sh (.tup (r.map D.int)), a5, a6, a7, a8, .sh (.int most), a10, a11, .sh (.int s), a13]) ?_ last
    unfold z16
    refine sv_if (tv_or (k := decide (s < 1)) (k2 := decide (3 < s)) (tv_e (ev_bin (ev_V rfl) ev_C rfl)) fun _ => tv_e (ev_bin (ev_V rfl) ev_C rfl)) ?_
    by_cases h : s < 1 ∨ 3 < s
    · have hk : (decide (s < 1) || decide (3 < s)) = true := by simpa using h
      rw [hk, if_pos rfl]
      exact sv_if (k := false) (tv_not (k := true) (tv_tru (ev_call (av_cons (ev_V rfl) (av_cons (ev_V rfl) av_nil)) (refused_ok _ s h)) rfl)) rfl
    · have hk : (decide (s < 1) || decide (3 < s)) = false := by
        rw [Bool.or_eq_false_iff, decide_eq_false_iff_not, decide_eq_false_iff_not]
        omega
      rw [hk]
      rfl
  have h10 : powF (.int 10) (.int 31) = some (.val (.int (10 ^ 31))) := by kernel_rfl
  unfold tailK
  refine sv_seq (sv_set (ev_bin (ev_bin (ev_cb (av_cons (ev_call (av_cons (ev_V rfl) (av_cons ev_C av_nil)) h3) av_nil) rfl) ev_C (mod_pos (by decide))) ev_C rfl)) ?_
  have hcd := eqF_int (z3 / 13 % 7) 3
  by_cases hq : z3 / 13 % 7 = 3
  · rw [decide_eq_true hq] at hcd
    refine sv_seq (Γ' := [.sh (scr ns), a1, .sh (.tup (p.map D.int)), a3, .sh (.tup (r.map D.int)), a5, a6, a7, a8, .sh (.int most), a10, a11, .sh (.int (4 + z3 / 91 % 10 ^ 31)), a13]) ?_ (end_ok _)
    unfold z15
    refine sv_then (tv_e (ev_bin (ev_bin (ev_cb (av_cons (ev_bin (ev_call (av_cons (ev_V rfl) (av_cons ev_C av_nil)) h3) ev_C (fdiv_pos (by decide) (by decide))) av_nil) rfl) ev_C (mod_pos (by decide))) ev_C hcd)) ?_
    exact sv_set (ev_bin ev_C (ev_bin (ev_cb (av_cons (ev_bin (ev_call (av_cons (ev_V rfl) (av_cons ev_C av_nil)) h3) ev_C (fdiv_pos (by decide) (by decide))) av_nil) rfl) (ev_bin ev_C ev_C h10) (mod_pos (by decide))) rfl)
  · rw [decide_eq_false hq] at hcd
    refine sv_seq (Γ' := [.sh (scr ns), a1, .sh (.tup (p.map D.int)), a3, .sh (.tup (r.map D.int)), a5, a6, a7, a8, .sh (.int most), a10, a11, .sh (.int (z3 % 13 - 4)), a13]) ?_ (end_ok _)
    unfold z15
    refine sv_else (tv_e (ev_bin (ev_bin (ev_cb (av_cons (ev_bin (ev_call (av_cons (ev_V rfl) (av_cons ev_C av_nil)) h3) ev_C (fdiv_pos (by decide) (by decide))) av_nil) rfl) ev_C (mod_pos (by decide))) ev_C hcd)) rfl
/-! the middle -/
theorem out_ok {s0 : Slot} {p r : List Int} {R : SR} {L : Res} (hL : n_longest_decreasing (memo p r) [.tup (p.map D.int)] = L) (h : outK p r R = some (s0, true)) : ∃ (a1 a3 a5 a6 a7 a8 a10 a11 a12 a13 : Slot) (most : Int),
    R = .next [s0, a1, .sh (.tup (p.map D.int)), a3, .sh (.tup (r.map D.int)), a5, a6, a7, a8, .sh (.int most), a10, a11, a12, a13] ∧ L = .ok (.int most) := by
  unfold outK at h
  rw [hL] at h
  split at h
  · rename_i Γ
    split at h
    · rename_i b0 a1 q a3 due a5 a6 a7 a8 most a10 a11 a12 a13
      simp only [Option.some.injEq, Prod.mk.injEq, Bool.and_eq_true] at h
      obtain ⟨rfl, ⟨h1, h2⟩, h3⟩ := h
      have e1 := sameI_is h1
      have e2 := sameI_is h2
      subst e1 e2
      split at h3
      · rename_i l
        have e3 : l = most := of_decide_eq_true h3
        subst e3
        exact ⟨a1, a3, a5, a6, a7, a8, a10, a11, a12, a13, l, rfl, rfl⟩
      · cases h3
    · cases h
  · cases h
theorem mid_ok {s0 : Slot} {n : Nat} {p r : List Int} (h : outK p r (midK (memo p r) (envP s0 n p)) = some (s0, true)) (hr : okRk p r = true) : ∃ (a1 a3 a5 a6 a7 a8 a10 a11 a12 a13 : Slot) (most : Int),
    midK m_colours (envP s0 n p) = .next [s0, a1, .sh (.tup (p.map D.int)), a3, .sh (.tup (r.map D.int)), a5, a6, a7, a8, .sh (.int most), a10, a11, a12, a13] ∧ m_longest_decreasing [.tup (p.map D.int)] = .ok (.int most) := by
  have hm := memo_is (okRk_is hr)
  obtain ⟨a1, a3, a5, a6, a7, a8, a10, a11, a12, a13, most, he, hl⟩ := out_ok rfl h
  refine ⟨a1, a3, a5, a6, a7, a8, a10, a11, a12, a13, most, (congrArg (fun c => midK c (envP s0 n p)) hm).trans he, ?_⟩
  refine Eq.trans ?_ hl
  rw [← ne_longest_decreasing]
  exact congrArg (fun c => n_longest_decreasing c [.tup (p.map D.int)]) hm
/-! the head -/
theorem stepInts_mem (n : Nat) (hn : n ≤ 6) : ∃ p ∈ draws n (upto n), stepInts (n : Int) (-1) n = p.map D.int := by
  have : ∀ m < 7, ∃ p ∈ draws m (upto m), stepInts (m : Int) (-1) m = p.map D.int := by
    intro m hm
    match m, hm with
    | 0, _ => exact ⟨[], by decide +kernel, rfl⟩
    | 1, _ => exact ⟨[1], by decide +kernel, rfl⟩
    | 2, _ => exact ⟨[2, 1], by decide +kernel, rfl⟩
    | 3, _ => exact ⟨[3, 2, 1], by decide +kernel, rfl⟩
    | 4, _ => exact ⟨[4, 3, 2, 1], by decide +kernel, rfl⟩
    | 5, _ => exact ⟨[5, 4, 3, 2, 1], by decide +kernel, rfl⟩
    | 6, _ => exact ⟨[6, 5, 4, 3, 2, 1], by decide +kernel, rfl⟩
  exact this n (by omega)
theorem upto_mem (n : Nat) (hn : n ≤ 6) : upto n ∈ draws n (upto n) := by
  have : ∀ m < 7, upto m ∈ draws m (upto m) := by decide +kernel
  exact this n (by omega)
theorem tupRg_ok (n : Nat) (hn : n ≤ 6) : tupRgF 1 ((n : Int) + 1) = some (.val (.tup ((upto n).map D.int))) := by
  unfold tupRgF
  have : rgOk 1 ((n : Int) + 1) = true := by
    unfold rgOk inLine
    simp only [Bool.and_eq_true,
        decide_eq_true_eq]
    omega
  rw [if_pos this]
  have e : ((n : Int) + 1 - 1).toNat = n := by omega
  rw [e, zInts_map n hn]
  rfl
theorem tupRd_ok (n : Nat) (hn : n ≤ 6) : tupRdF (n : Int) 0 = some (.val (.tup (stepInts (n : Int) (-1) n))) := by
  unfold tupRdF
  have : rgOk 0 (n : Int) = true := by
    unfold rgOk inLine
    simp only [Bool.and_eq_true,
        decide_eq_true_eq]
    omega
  rw [if_pos this]
  have e : ((n : Int) - 0).toNat = n := by omega
  rw [e]
  rfl
theorem set_val {e : DP.E} {i : Nat} {Γ : Env} {d : D} (h : e Γ = .ok (.val d) Γ) : sSet i e Γ = .next (Γ.set i (.sh d)) := sv_set h
theorem head_ok (ns : List Int) (hn : ns.length ≤ 63) : ∃ (n : Nat) (p : List Int), n ≤ 6 ∧ p ∈ draws n (upto n) ∧ ∀ s : DP.S, sSeq z0 (sSeq z1 (sSeq z2 (sSeq z3 s))) (startEnv 14 [scr ns]) = s (envP (.sh (scr ns)) n p) := by
  obtain ⟨c0, h0⟩ := cell_ok ns 0 (by decide) hn
  obtain ⟨c2, h2⟩ := cell_ok ns 2 (by decide) hn
  obtain ⟨z, hz⟩ := number_ok ns hn
  have hm0 := Int.emod_nonneg c0 (show (7 : Int) ≠ 0 by decide)
  have hm1 := Int.emod_lt_of_pos c0 (show (0 : Int) < 7 by decide)
  obtain ⟨n, hnn⟩ : ∃ n : Nat, c0 % 7 = n := ⟨(c0 % 7).toNat, by omega⟩
  have hn6 : n ≤ 6 := by omega
  obtain ⟨p0, hp0, hd⟩ := drawn_ok z n hn6
  have st0 : z0 (startEnv 14 [scr ns]) = .next [.sh (scr ns), .sh (.int n), .no, .no, .no, .no, .no, .no, .no, .no, .no, .no, .no, .no] := by
    have hmod : modF (.int c0) (.int 7) = some (.val (.int n)) := by rw [← hnn]; exact mod_pos (by decide)
    unfold z0
    exact sv_set (ev_bin (ev_cb (av_cons (ev_call (av_cons (ev_V rfl) (av_cons ev_C av_nil)) h0) av_nil) rfl) ev_C hmod)
  have st1 : z1 [.sh (scr ns), .sh (.int n), .no, .no, .no, .no, .no, .no, .no, .no, .no, .no, .no, .no] = .next (envP (.sh (scr ns)) n p0) := by
    unfold z1
    exact sv_set (ev_call (av_cons (ev_call (av_cons (ev_V rfl) (av_cons ev_C av_nil)) hz) (av_cons (ev_V rfl) av_nil)) hd)
  have cnd : ∀ (q : List Int) (k : Int), TV (DP.tE (DP.eBin DP.eqF (DP.eBin DP.modF (DP.eCB DP.intF (DP.aCons (DP.eCall m__law_cell (DP.aCons (DP.eV 0) (DP.aCons (DP.eC (.int 2)) DP.aNil))) DP.aNil)) (DP.eC (.int 6))) (DP.eC (.int k)))) (envP (.sh (scr ns)) n q) (decide (c2 % 6 = k)) := fun q k =>
    tv_e (ev_bin (ev_bin (ev_cb (av_cons (ev_call (av_cons (ev_V rfl) (av_cons ev_C av_nil)) h2) av_nil) rfl) ev_C (mod_pos (by decide))) ev_C (eqF_int _ _))
  have st2 : ∃ p1 ∈ draws n (upto n), z2 (envP (.sh (scr ns)) n p0) = .next (envP (.sh (scr ns)) n p1) := by
    by_cases hc : c2 % 6 = 0
    · have h := cnd p0 0
      rw [decide_eq_true hc] at h
      exact ⟨upto n, upto_mem n hn6, sv_then h (set_val (ev_rg ev_C (ev_bin (ev_V rfl) ev_C rfl) (tupRg_ok n hn6)))⟩
    · have h := cnd p0 0
      rw [decide_eq_false hc] at h
      exact ⟨p0, hp0, sv_else h rfl⟩
  obtain ⟨p1, hp1, st2⟩ := st2
  have st3 : ∃ p2 ∈ draws n (upto n), z3 (envP (.sh (scr ns)) n p1) = .next (envP (.sh (scr ns)) n p2) := by
    by_cases hc : c2 % 6 = 1
    · have h := cnd p1 1
      rw [decide_eq_true hc] at h
      obtain ⟨q, hq, he⟩ := stepInts_mem n hn6
      have ht := tupRd_ok n hn6
      rw [he] at ht
      exact ⟨q, hq, sv_then h (set_val (ev_rg (ev_V rfl) ev_C ht))⟩
    · have h := cnd p1 1
      rw [decide_eq_false hc] at h
      exact ⟨p1, hp1, sv_else h rfl⟩
  obtain ⟨p2, hp2, st3⟩ := st3
  exact ⟨n, p2, hn6, hp2, fun s => sv_seq st0 (sv_seq st1 (sv_seq st2 (sv_seq st3 rfl)))⟩
theorem law20_of (hall : ∀ n ≤ 6, allOk n (draws n (upto n))) (ns : List Int) (hn : ns.length ≤ 63) : m_law [.scr (ns.map D.int)] = .ok (.bl true) := by
  obtain ⟨n, p, hn6, hp, hh⟩ := head_ok ns hn
  obtain ⟨h1, h2⟩ := hall n hn6 p hp
  obtain ⟨a1, a3, a5, a6, a7, a8, a10, a11, a12, a13, most, hm, hl⟩ := mid_ok (h2 (.sh (scr ns))) h1
  refine run_ret rfl ?_
  rw [law_split2]
  refine (hh _).trans (sv_seq hm ?_)
  exact tail_ok ns hn p (rk n p) most a1 a3 a5 a6 a7 a8 a10 a11 a12 a13 (okRk_is h1) hl
end DP

theorem DP.law20 (ns : List Int) (hn : ns.length ≤ 63) (_ : ∀ z ∈ ns, PySem.Builtin.Int.intBits z ≤ 1048576) : DP.m_law [.scr (ns.map DP.D.int)] = .ok (.bl true) :=
  DP.law20_of (fun n hn => match n, hn with
    | 0, _ => DP.all_r0
    | 1, _ => DP.all_r1
    | 2, _ => DP.all_r2
    | 3, _ => DP.all_r3
    | 4, _ => DP.all_r4
    | 5, _ => DP.all_r5
    | 6, _ => DP.all_r6) ns hn
open PySem PySem.W
    PyProof.Rows
set_option autoImplicit true
set_option maxRecDepth 100000
set_option maxHeartbeats 0 in
theorem PySem.Challenge.cw_kindsoftables_k20_colours_and_decreasing_holds : PySem.Challenge.rw_kindsoftables_k20_colours_and_decreasing.Holds := by
  w_on
  o_law
  k_head
  (case hw => w_witness2)
  k_fill
  refine DP.walkD (l := PySem.Challenge.rw_kindsoftables_k20_colours_and_decreasing) (n := 63) (k := 5) DP.law20 rfl (by decide) rfl ⟨rfl, by decide, by decide⟩ (fun w h Y => PySem.W.kIn_of Y) ?F
  case F =>
    intro w mg fa h KX G hmg
    refine' DP.all_k20 KX G hmg ?b_abs ?b_bool ?b_enumerate ?b_int ?b_isinstance ?b_len ?b_list ?b_max ?b_range ?b_tuple ?gS ?lS ?gC ?gT ?gK ?qC ?kC ?bC ?tC ?iC ?tT ?iT ?tK ?iK ?sCC ?sCT ?sTC ?sCK ?e1 ?e2 ?e4 ?e5 ?e6 ?e7 ?e8 ?a0 ?l0 ?c0 ?k0 ?a1 ?l1 ?c1 ?k1 ?a2 ?l2 ?c2 ?k2 ?a3 ?l3 ?c3 ?k3 ?a4 ?l4 ?c4 ?k4 ?a5 ?l5 ?c5 ?k5 ?a6 ?l6 ?c6 ?k6 ?a7 ?l7 ?c7 ?k7 ?a8 ?l8 ?c8 ?k8 ?a9 ?l9 ?c9 ?k9 ?a10 ?l10 ?c10 ?k10 ?a11 ?l11 ?c11 ?k11 ?a12 ?l12 ?c12 ?k12 ?a13 ?l13 ?c13 ?k13 ?a14 ?l14 ?c14 ?k14 ?a15 ?l15 ?c15 ?k15
    (case b_abs => k_is)
    (case b_bool => k_is)
    (case b_enumerate => k_is)
    (case b_int => k_is)
    (case b_isinstance => k_is)
    (case b_len => k_is)
    (case b_list => k_is)
    (case b_max => k_is)
    (case b_range => k_is)
    (case b_tuple => k_is)
    (case gS => k_is)
    (case lS => k_is)
    (case gC => k_is)
    (case gT => k_is)
    (case gK => k_is)
    (case qC => k_exc)
    (case kC => k_is)
    (case bC => k_is)
    (case tC => k_is)
    (case iC => k_is)
    (case tT => k_is)
    (case iT => k_is)
    (case tK => k_is)
    (case iK => k_is)
    (case sCC => first | rfl | k_is)
    (case sCT => k_is)
    (case sTC => k_is)
    (case sCK => k_is)
    (case e1 => k_is)
    (case e2 => k_is)
    (case e4 => k_is)
    (case e5 => k_is)
    (case e6 => k_is)
    (case e7 => k_is)
    (case e8 => k_is)
    (case a0 => k_is)
    (case l0 => k_is)
    (case c0 => k_is)
    (case k0 => k_is)
    (case a1 => k_is)
    (case l1 => k_is)
    (case c1 => k_is)
    (case k1 => k_is)
    (case a2 => k_is)
    (case l2 => k_is)
    (case c2 => k_is)
    (case k2 => k_is)
    (case a3 => k_is)
    (case l3 => k_is)
    (case c3 => k_is)
    (case k3 => k_is)
    (case a4 => k_is)
    (case l4 => k_is)
    (case c4 => k_is)
    (case k4 => k_is)
    (case a5 => k_is)
    (case l5 => k_is)
    (case c5 => k_is)
    (case k5 => k_is)
    (case a6 => k_is)
    (case l6 => k_is)
    (case c6 => k_is)
    (case k6 => k_is)
    (case a7 => k_is)
    (case l7 => k_is)
    (case c7 => k_is)
    (case k7 => k_is)
    (case a8 => k_is)
    (case l8 => k_is)
    (case c8 => k_is)
    (case k8 => k_is)
    (case a9 => k_is)
    (case l9 => k_is)
    (case c9 => k_is)
    (case k9 => k_is)
    (case a10 => k_is)
    (case l10 => k_is)
    (case c10 => k_is)
    (case k10 => k_is)
    (case a11 => k_is)
    (case l11 => k_is)
    (case c11 => k_is)
    (case k11 => k_is)
    (case a12 => k_is)
    (case l12 => k_is)
    (case c12 => k_is)
    (case k12 => k_is)
    (case a13 => k_is)
    (case l13 => k_is)
    (case c13 => k_is)
    (case k13 => k_is)
    (case a14 => k_is)
    (case l14 => k_is)
    (case c14 => k_is)
    (case k14 => k_is)
    (case a15 => k_is)
    (case l15 => k_is)
    (case c15 => k_is)
    (case k15 => k_is)
