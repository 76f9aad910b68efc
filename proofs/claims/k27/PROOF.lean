import PyProof.Rows.All
import Wide.All
import OpenK.AllK
import Wide.FinOn
import HandS.ForList
import PySem.Str
import HandS.ForMost
import HandS.ForExc
import HandS.Wide
import HandS.Evl
import HandS.IsInst
import HandS.ExcIs
import HandS.Conv
import HandS.TupAny
import HandS.EndBits
import HandS.SortKw
import HandS.CallSlots
import HandS.ExcInitHot
import HandS.ExcField
import HandS.SuiteRaise
import HandS.ReCall
import KE.DataMinMax
import PyProof.SeqIndex
import KE.GoesEnum
import HandS.RaiseMore
import HandS.Property
import HandS.Records
import HandS.Gcd
import HandS.Defaults
import HandS.ClsMeth
import HandS.FStr
import KE.KFmtOwn
import HandS.OwnEq
import KE.GoesEnumKw
import KE.GoesMore
import PyProof.StrWalks
import HandS.Strs
import HandS.SetTxtIn
import HandS.Text
import KE.OsGo
import PySem.Challenge.RW_kindsoftables_k27_texts_of_recipes
set_option Elab.async false
set_option linter.all false
set_option autoImplicit false
set_option maxRecDepth 1000000
/-! DpCore: what pure pieces of Python denote: plain functions over trees of data. No heap here. -/
namespace DP
open PySem

/-- data: trees -/
inductive D where
  | non
  | bl (b : Bool)
  | int (i : Int)
  | str (s : Str)
  | tup (xs : List D)
  | lst (xs : List D)
  | scr (xs : List D)
  | dK (kvs : List (Sum Int Str × D))
  | dT (kvs : List (List (Sum Int Str) × D))
  | ins (c : Str) (fs : List (Str × D))
  deriving Inhabited

/-- what a name holds: nothing; data that is shared; a list or dict of its own; an exception that a suite holds -/
inductive Slot where
  | no
  | sh (d : D)
  | ow (d : D)
  | ex (c : Str) (fs : List D)
abbrev Env := List Slot

/-- what an expression gives: data, new data that nothing else holds, the own object of a slot -/
inductive Opd where
  | val (d : D)
  | fresh (d : D)
  | own (i : Nat)

/-- the end of a piece -/
inductive R (α : Type) where
  | ok (a : α) (Γ : Env)
  | exc (c : Str) (fs : List D) (Γ : Env)
  | stuck

def R.bind {α β : Type} (r : R α) (k : α → Env → R β) : R β :=
  match r with
  | .ok a Γ => k a Γ
  | .exc c fs Γ => .exc c fs Γ
  | .stuck => .stuck
@[simp] theorem R.bind_ok {α β : Type} (a : α) (Γ : Env) (k : α → Env → R β) : (R.ok a Γ).bind k = k a Γ := rfl
@[simp] theorem R.bind_exc {α β : Type} (c : Str) (fs : List D) (Γ : Env) (k : α → Env → R β) : (R.exc c fs Γ : R α).bind k = .exc c fs Γ := rfl
@[simp] theorem R.bind_stuck {α β : Type} (k : α → Env → R β) : (R.stuck : R α).bind k = .stuck := rfl

abbrev E := Env → R Opd
abbrev T := Env → R Bool
abbrev As := Env → R (List Opd)
abbrev It := Env → R (List D)

/-- the end of a statement -/
inductive SR where
  | next (Γ : Env)
  | ret (d : D)
  | brk (Γ : Env)
  | cont (Γ : Env)
  | exc (c : Str) (fs : List D) (Γ : Env)
  | stuck
abbrev S := Env → SR

/-- the end of a call -/
inductive Res where
  | ok (d : D)
  | exc (c : Str) (fs : List D)
  | stuck
abbrev Fn := List D → Res

def slotD : Option Slot → Option D
  | some (.sh d) => some d
  | some (.ow d) => some d
  | _ => none
def Opd.get (Γ : Env) : Opd → Option D
  | .val d => some d
  | .fresh d => some d
  | .own i => slotD Γ[i]?
/-- the data of what is no slot's own -/
def Opd.str : Opd → Option D
  | .val d => some d
  | .fresh d => some d
  | .own _ => none
def Opd.isOwn : Opd → Bool
  | .own _ => true
  | _ => false
def gets (Γ : Env) : List Opd → Option (List D)
  | [] => some []
  | o :: r => match o.get Γ, gets Γ r with
    | some d, some ds =>
        some (d :: ds)
    | _, _ => none
def strsD : List Opd → Option (List D)
  | [] => some []
  | o :: r => match o.str, strsD r with
    | some d, some ds =>
        some (d :: ds)
    | _, _ => none

mutual
/-- no list, no dict within -/
def noMut : D → Bool
  | .tup xs => noMuts xs
  | .lst _ => false
  | .scr _ => false
  | .dK _ => false
  | .dT _ => false
  | .ins _ _ => false
  | _ => true
def noMuts : List D → Bool
  | [] => true
  | d :: r => noMut d && noMuts r
def noMutF : List (Str × D) → Bool
  | [] => true
  | (_, d) :: r => noMut d && noMutF r
end
mutual
/-- no list, no dict within; instances may be -/
def noMutI : D → Bool
  | .tup xs => noMutIs xs
  | .lst _ => false
  | .scr _ => false
  | .dK _ => false
  | .dT _ => false
  | .ins _ fs => noMutIF fs
  | _ => true
def noMutIs : List D → Bool
  | [] => true
  | d :: r => noMutI d && noMutIs r
def noMutIF : List (Str × D) → Bool
  | [] => true
  | (_, d) :: r => noMutI d && noMutIF r
end
/-- what an exception carries: nothing, or its fields; no list within -/
def noMutX : List D → Bool
  | [] => true
  | [.ins _ fs] => noMutF fs
  | _ => false
/-- no slot owns an instance -/
def noOwnIns (Γ : Env) : Bool := Γ.all fun s => match s with
  | .ow (.ins _ _) => false
  | _ => true

def opt {α : Type} (o : Option α) (Γ : Env) : R α := match o with
  | some a => .ok a Γ
  | none => .stuck
@[simp] theorem opt_some {α : Type} (a : α) (Γ : Env) : opt (some a) Γ = .ok a Γ := rfl
@[simp] theorem opt_none {α : Type} (Γ : Env) : opt (none : Option α) Γ = .stuck := rfl

/-! ### expressions -/
def eV (i : Nat) : E := fun Γ => match Γ[i]? with
  | some (.sh d) => .ok (.val d) Γ
  | some (.ow _) => .ok (.own i) Γ
  | _ => .stuck
def eC (d : D) : E := fun Γ => .ok (.val d) Γ
def eBin (f : D → D → Option Opd) (a b : E) : E := fun Γ =>
  (a Γ).bind fun x Γ1 => (b Γ1).bind fun y Γ2 => match x.get Γ2, y.get Γ2 with
    | some dx, some dy => opt (f dx dy) Γ2
    | _, _ => .stuck
def eUn (f : D → Option Opd) (a : E) : E := fun Γ =>
  (a Γ).bind fun x Γ1 => match x.get Γ1 with
    | some dx => opt (f dx) Γ1
    | none => .stuck
/-- a < b < c: the second comparison is asked if the first holds -/
def eChain (f g : D → D → Option Opd) (a b c : E) : E := fun Γ =>
  (a Γ).bind fun x Γ1 => (b Γ1).bind fun y Γ2 => match x.str, y.str with
    | some dx, some dy => match f dx dy with
      | some (.val (.bl true)) => (c Γ2).bind fun z Γ3 => match z.get Γ3 with
        | some dz => opt (g dy dz) Γ3
        | none => .stuck
      | some (.val (.bl false)) => .ok (.val (.bl false)) Γ2
      | _ => .stuck
    | _, _ => .stuck
def aNil : As := fun Γ => .ok [] Γ
def aCons (a : E) (r : As) : As := fun Γ => (a Γ).bind fun x Γ1 => (r Γ1).bind fun xs Γ2 => .ok (x :: xs) Γ2
/-- a built-in called by values -/
def eCB (f : List D → Option Opd) (t : As) : E := fun Γ =>
  (t Γ).bind fun os Γ1 => match gets Γ1 os with
    | some ds => opt (f ds) Γ1
    | none => .stuck
/-- a def of the text -/
def callR (f : Fn) (os : List Opd) (Γ : Env) : R Opd := match gets Γ os with
  | some ds => match f ds with
    | .ok d => if os.any Opd.isOwn then (if noMut d || (noMutI d && noOwnIns Γ) then .ok (.val d) Γ else .stuck) else .ok (.val d) Γ
    | .exc c fs => if fs.isEmpty || !os.any Opd.isOwn || noMutX fs then .exc c fs Γ else .stuck
    | .stuck => .stuck
  | none => .stuck
def eCall (f : Fn) (t : As) : E := fun Γ => (t Γ).bind fun os Γ1 => callR f os Γ1
def eTup (t : As) : E := fun Γ => (t Γ).bind fun os Γ1 => match strsD os with
  | some ds => if ds.length ≤ 1000000 then .ok (.val (.tup ds)) Γ1 else .stuck
  | none => .stuck
def eLst (t : As) : E := fun Γ => (t Γ).bind fun os Γ1 => match strsD os with
  | some ds => if ds.length ≤ 1000000 then .ok (.fresh (.lst ds)) Γ1 else .stuck
  | none => .stuck
def eIf (c : T) (a b : E) : E := fun Γ => (c Γ).bind fun k Γ1 => if k = true then a Γ1 else b Γ1
/-- and, or, not of truth values -/
def eAnd (a b : E) : E := fun Γ => (a Γ).bind fun x Γ1 => match x with
  | .val (.bl true) => b Γ1
  | .val (.bl false) => .ok (.val (.bl false)) Γ1
  | _ => .stuck
def eOr (a b : E) : E := fun Γ => (a Γ).bind fun x Γ1 => match x with
  | .val (.bl true) => .ok (.val (.bl true)) Γ1
  | .val (.bl false) => b Γ1
  | _ => .stuck
def eNot (a : E) : E := fun Γ => (a Γ).bind fun x Γ1 => match x with
  | .val (.bl k) => .ok (.val (.bl !k)) Γ1
  | _ => .stuck
/-- a method that changes the own list of slot i: the list, the arguments, what comes out, the list behind it -/
def eMut (f : D → List D → Option (D × D)) (i : Nat) (t : As) : E := fun Γ =>
  match Γ[i]? with
  | some (.ow (.lst _)) => (t Γ).bind fun os Γ1 => match strsD os, Γ1[i]? with
    | some ds, some (.ow d) => match f d ds with
      | some (v, d') => .ok (.val v) (Γ1.set i (.ow d'))
      | none => .stuck
    | _, _ => .stuck
  | _ => .stuck
/-- a method of a tuple -/
def eMtT (f : List D → List D → Option Opd) (a : E) (t : As) : E := fun Γ =>
  (a Γ).bind fun x Γ1 => match x.str with
    | some (.tup xs) => (t Γ1).bind fun os Γ2 => match gets Γ2 os with
      | some ds => opt (f xs ds) Γ2
      | none => .stuck
    | _ => .stuck
/-- an optional part of a slice -/
def pNo : Env → R (Option Int) := fun Γ => .ok none Γ
def pE (a : E) : Env → R (Option Int) := fun Γ => (a Γ).bind fun x Γ1 => match x with
  | .val (.int i) => .ok (some i) Γ1
  | _ => .stuck
def eSl (f : D → Option Int → Option Int → Option Opd) (a : E) (lo hi : Env → R (Option Int)) : E := fun Γ =>
  (a Γ).bind fun x Γ1 => (lo Γ1).bind fun l Γ2 => (hi Γ2).bind fun h Γ3 => match x.get Γ3 with
    | some dx => opt (f dx l h) Γ3
    | none => .stuck
/-- list(range(..)), tuple(range(..)) -/
def eRg (f : Int → Int → Option Opd) (a b : E) : E := fun Γ =>
  (a Γ).bind fun x Γ1 => (b Γ1).bind fun y Γ2 => match x, y with
    | .val (.int i), .val (.int j) => opt (f i j) Γ2
    | _, _ => .stuck

/-! ### tests -/
/-- the truth of data -/
def truth : D → Option Bool
  | .non => some false
  | .bl b => some b
  | .int i => some (i != 0)
  | .str s => if s.length ≤ 1000000 then some (s.length != 0) else none
  | .tup xs => some (!xs.isEmpty)
  | .lst xs => some (!xs.isEmpty)
  | .scr _ => none
  | .dK _ => none
  | .dT _ => none
  | .ins _ _ => none
def tE (a : E) : T := fun Γ => (a Γ).bind fun x Γ1 => match x with
  | .val (.bl k) => .ok k Γ1
  | _ => .stuck
def tTru (a : E) : T := fun Γ => (a Γ).bind fun x Γ1 => match x.get Γ1 with
  | some d => opt (truth d) Γ1
  | none => .stuck
def tAnd (a b : T) : T := fun Γ => (a Γ).bind fun k Γ1 => if k = true then b Γ1 else .ok false Γ1
def tOr (a b : T) : T := fun Γ => (a Γ).bind fun k Γ1 => if k = true then .ok true Γ1 else b Γ1
def tNot (a : T) : T := fun Γ => (a Γ).bind fun k Γ1 => .ok (!k) Γ1
def tYes : T := fun Γ => .ok true Γ

/-! ### what is walked -/
def items : D → Option (List D)
  | .lst xs => some xs
  | .scr xs => some xs
  | .tup xs => some xs
  | _ => none
/-- a list or tuple; a slot's own one is shared from then on -/
def freeze (Γ : Env) : Opd → Env
  | .own i => match Γ[i]? with
    | some (.ow d) => Γ.set i (.sh d)
    | _ => Γ
  | _ => Γ
def iE (a : E) : It := fun Γ => (a Γ).bind fun x Γ1 => match x.get Γ1 with
  | some d => match items d with
    | some xs => .ok xs (freeze Γ1 x)
    | none => .stuck
  | none => .stuck
def zInts (lo : Int) : Nat → List D
  | 0 => []
  | n + 1 => D.int lo :: zInts (lo + 1) n
def stepInts (lo c : Int) : Nat → List D
  | 0 => []
  | n + 1 => D.int lo :: stepInts (lo + c) c n
def inLine (i : Int) : Bool := decide (-(2 ^ 62) ≤ i) && decide (i < 2 ^ 62)
def iR1 (a : E) : It := fun Γ => (a Γ).bind fun x Γ1 => match x with
  | .val (.int j) => if inLine j then .ok (zInts 0 j.toNat) Γ1 else .stuck
  | _ => .stuck
def iR2 (a b : E) : It := fun Γ => (a Γ).bind fun x Γ1 => (b Γ1).bind fun y Γ2 => match x, y with
  | .val (.int i), .val (.int j) => if inLine i && inLine j then .ok (zInts i (j - i).toNat) Γ2 else .stuck
  | _, _ => .stuck
/-- range(a, b, -1) -/
def iRd (a b : E) : It := fun Γ => (a Γ).bind fun x Γ1 => (b Γ1).bind fun y Γ2 => match x, y with
  | .val (.int i), .val (.int j) => if inLine i && inLine j then .ok (stepInts i (-1) (i - j).toNat) Γ2 else .stuck
  | _, _ => .stuck
def enumD (n : Int) : List D → List D
  | [] => []
  | d :: r => .tup [.int n, d] :: enumD (n + 1) r
def iEnum (a : E) : It := fun Γ => (a Γ).bind fun x Γ1 => match x.get Γ1 with
  | some d => match items d with
    | some xs => .ok (enumD 0 xs) (freeze Γ1 x)
    | none => .stuck
  | none => .stuck

/-! ### targets -/
abbrev Tg := D → Env → Option Env
def gN (i : Nat) : Tg := fun d Γ => some (Γ.set i (.sh d))
def gs : List Nat → List D → Env → Option Env
  | [], [], Γ => some Γ
  | i :: r, d :: ds, Γ => gs r ds (Γ.set i (.sh d))
  | _, _, _ => none
def gT (js : List Nat) : Tg := fun d Γ => match d with
  | .tup ds => gs js ds Γ
  | _ => none

/-! ### comprehensions -/
def wipe (Γ : Env) : List Nat → Env
  | [] => Γ
  | v :: vs => (wipe Γ vs).set v .no
def lcLoop (vs : List Nat) (tg : Tg) (c : T) (e : E) : List D → Env → List D → Option (List D × Env)
  | [], Γ, acc => some (acc, Γ)
  | d :: r, Γ, acc => match tg d Γ with
    | none => none
    | some Γ1 => match c Γ1 with
      | .ok true Γ2 => match e Γ2 with
        | .ok o Γ3 => match o.str with
          | some x => if acc.length < 1000000 then lcLoop vs tg c e r (wipe Γ3 vs) (acc ++ [x]) else none
          | none => none
        | _ => none
      | .ok false Γ2 => lcLoop vs tg c e r (wipe Γ2 vs) acc
      | _ => none
def eLc (vs : List Nat) (it : It) (tg : Tg) (c : T) (e : E) : E := fun Γ =>
  (it Γ).bind fun xs Γ1 => match lcLoop vs tg c e xs (wipe Γ1 vs) [] with
    | some (ds, Γ2) => .ok (.fresh (.lst ds)) Γ2
    | none => .stuck

/-! ### statements -/
def sNext : S := fun Γ => .next Γ
def sSeq (a b : S) : S := fun Γ => match a Γ with
  | .next Γ1 => b Γ1
  | r => r
def R.toS (r : R Opd) (k : Opd → Env → SR) : SR := match r with
  | .ok o Γ => k o Γ
  | .exc c fs Γ => .exc c fs Γ
  | .stuck => .stuck
def R.toSB {α : Type} (r : R α) (k : α → Env → SR) : SR := match r with
  | .ok o Γ => k o Γ
  | .exc c fs Γ => .exc c fs Γ
  | .stuck => .stuck
def setR (i : Nat) (o : Opd) (Γ1 : Env) : SR := match o with
  | .val d => .next (Γ1.set i (.sh d))
  | .fresh d => .next (Γ1.set i (.ow d))
  | .own _ => .stuck
def sSet (i : Nat) (e : E) : S := fun Γ => (e Γ).toSB (setR i)
def sTg (tg : Tg) (e : E) : S := fun Γ => (e Γ).toSB fun o Γ1 => match o.str with
  | some d => match tg d Γ1 with
    | some Γ2 => .next Γ2
    | none => .stuck
  | none => .stuck
def sDrop (e : E) : S := fun Γ => (e Γ).toSB fun _ Γ1 => .next Γ1
def sRet (e : E) : S := fun Γ => (e Γ).toSB fun o Γ1 => match o.get Γ1 with
  | some d => .ret d
  | none => .stuck
def sRetN : S := fun _ => .ret .non
def sIf (c : T) (a b : S) : S := fun Γ => (c Γ).toSB fun k Γ1 => if k = true then a Γ1 else b Γ1
def sBrk : S := fun Γ => .brk Γ
def sCont : S := fun Γ => .cont Γ
def sNever : S := fun _ => .stuck
/-- raise C(text) -/
def sRaise (c : Str) : S := fun Γ => .exc c [] Γ
/-- x[i] = v of the own list of slot l -/
def sPut (f : D → D → D → Option D) (l : Nat) (ix e : E) : S := fun Γ => (e Γ).toSB fun o Γ1 => match o.str with
  | some v => match Γ1[l]? with
    | some (.ow _) => (ix Γ1).toSB fun oi Γ2 => match oi, Γ2[l]? with
      | .val i, some (.ow d) => match f d i v with
        | some d' => .next (Γ2.set l (.ow d'))
        | none => .stuck
      | _, _ => .stuck
    | _ => .stuck
  | none => .stuck
def forLoop (tg : Tg) (b : S) : List D → Env → SR
  | [], Γ => .next Γ
  | d :: r, Γ => match tg d Γ with
    | none => .stuck
    | some Γ1 => match b Γ1 with
      | .next Γ2 => forLoop tg b r Γ2
      | .cont Γ2 => forLoop tg b r Γ2
      | .brk Γ2 => .next Γ2
      | .ret d => .ret d
      | .exc c fs Γ2 => .exc c fs Γ2
      | .stuck => .stuck
def sFor (it : It) (tg : Tg) (b : S) : S := fun Γ => (it Γ).toSB fun xs Γ1 => forLoop tg b xs Γ1
def whileLoop (c : T) (b : S) : Nat → Env → SR
  | 0, _ => .stuck
  | n + 1, Γ => (c Γ).toSB fun k Γ1 => if k = true then (match b Γ1 with
      | .next Γ2 => whileLoop c b n Γ2
      | .cont Γ2 => whileLoop c b n Γ2
      | .brk Γ2 => .next Γ2
      | .ret d => .ret d
      | .exc c fs Γ2 => .exc c fs Γ2
      | .stuck => .stuck) else .next Γ1
def sWhile (n : Nat) (c : T) (b : S) : S := whileLoop c b n
/-- behind a suite: no exception is held -/
def unSlot : Slot → Slot
  | .ex _ _ => .no
  | s => s
def unEx (j : Nat) (Γ : Env) : Env := (Γ.set j .no).map unSlot
/-- try: b / except X as slot j: su; sub tells of a class whether X catches it -/
def sTry (sub : Str → Option Bool) (j : Nat) (b su : S) : S := fun Γ => match b Γ with
  | .exc c fs Γ1 => match sub c with
    | some true => (match su (Γ1.set j (.ex c fs)) with
        | .next Γ2 => .next (unEx j Γ2)
        | .brk Γ2 => .brk (unEx j Γ2)
        | .cont Γ2 => .cont (unEx j Γ2)
        | .ret d => .ret d
        | _ => .stuck)
    | some false => .exc c fs Γ1
    | none => .stuck
  | r => r
/-- try: b / except X: su, where su may raise -/
def sTryX (sub : Str → Option Bool) (b su : S) : S := fun Γ => match b Γ with
  | .exc c fs Γ1 => match sub c with
    | some true => su Γ1
    | some false => .exc c fs Γ1
    | none => .stuck
  | r => r
/-- raise C(e), whose __init__ puts e into the field f -/
def sRaiseX (c f : Str) (e : E) : S := fun Γ => (e Γ).toSB fun o Γ1 => match o.str with
  | some d => .exc c [.ins "" [(f, d)]] Γ1
  | none => .stuck
/-- the field f of the exception in slot i -/
def eXf (cs : List Str) (f : Str) (i : Nat) : E := fun Γ => match Γ[i]? with
  | some (.ex c [.ins _ fl]) => if cs.contains c then (match fl.lookup f with
    | some d => .ok (.val d) Γ
    | none => .stuck) else .stuck
  | _ => .stuck
/-- isinstance of the exception in slot i -/
def eIsX (sub : Str → Option Bool) (i : Nat) : E := fun Γ => match Γ[i]? with
  | some (.ex c []) => match sub c with
    | some b => .ok (.val (.bl b)) Γ
    | none => .stuck
  | _ => .stuck

/-! ### a def -/
def startEnv (n : Nat) (ds : List D) : Env := ds.map Slot.sh ++ List.replicate (n - ds.length) .no
/-- n names in all, a body -/
def runDef (np n : Nat) (b : S) : Fn := fun ds => if ds.length = np then (match b (startEnv n ds) with
  | .next _ => .ok .non
  | .ret d => .ok d
  | .exc c fs _ => .exc c fs
  | _ => .stuck) else .stuck

/-! ### operators by data -/
def ov (d : D) : Option Opd := some (.val d)
def of (d : D) : Option Opd := some (.fresh d)
def addF : D → D → Option Opd
  | .int i, .int j => ov (.int (i + j))
  | .lst xs, .lst ys => if xs.length + ys.length ≤ 1000000 then of (.lst (xs ++ ys)) else none
  | .tup xs, .tup ys => if xs.length + ys.length ≤ 1000000 then ov (.tup (xs ++ ys)) else none
  | .str x, .str y => if x.length + y.length ≤ 1000000 then ov (.str (x ++ y)) else none
  | _, _ => none
def subF : D → D → Option Opd
  | .int i, .int j => ov (.int (i - j))
  | _, _ => none
/-- together below a million bits -/
def mulOk (i j : Int) : Bool := decide (i.natAbs.log2 + j.natAbs.log2 < 1000000)
def mulF : D → D → Option Opd
  | .int i, .int j => if mulOk i j then ov (.int (i * j)) else none
  | _, _ => none
def fdivF : D → D → Option Opd
  | .int i, .int j => if decide (0 < j) && decide (j.natAbs.log2 < 9000) then ov (.int (i / j)) else none
  | _, _ => none
def modF : D → D → Option Opd
  | .int i, .int j => if 0 < j then ov (.int (i % j)) else none
  | _, _ => none
def powF : D → D → Option Opd
  | .int i, .int j => if decide (0 ≤ j) && decide (j ≤ 1000000) && decide (i.natAbs < 2 ^ 64) then ov (.int (i ^ j.toNat)) else none
  | _, _ => none
def negF : D → Option Opd
  | .int i => ov (.int (-i))
  | _ => none
def ltF : D → D → Option Opd
  | .int i, .int j => ov (.bl (decide (i < j)))
  | _, _ => none
def leF : D → D → Option Opd
  | .int i, .int j => ov (.bl (decide (i ≤ j)))
  | _, _ => none
def gtF : D → D → Option Opd
  | .int i, .int j => ov (.bl (decide (j < i)))
  | _, _ => none
def geF : D → D → Option Opd
  | .int i, .int j => ov (.bl (decide (j ≤ i)))
  | _, _ => none
mutual
def eqD : D → D → Bool
  | .non, .non => true
  | .bl a, .bl b => a == b
  | .bl a, .int j => (if a then 1 else 0) == j
  | .int i, .bl b => i == (if b then 1 else 0)
  | .int i, .int j => i == j
  | .str x, .str y => x == y
  | .tup xs, .tup ys => eqDs xs ys
  | .lst xs, .lst ys => eqDs xs ys
  | _, _ => false
def eqDs : List D → List D → Bool
  | [], [] => true
  | x :: xs, y :: ys => eqD x y && eqDs xs ys
  | _, _ => false
end
mutual
/-- data that == compares by itself: no dict, no instance, not too deep -/
def plain : Nat → D → Bool
  | _, .non => true
  | _, .bl _ => true
  | _, .int _ => true
  | _, .str s => s.cps.all fun c => decide (c < 1114112)
  | 0, .tup _ => false
  | n + 1, .tup xs => plains n xs
  | 0, .lst _ => false
  | n + 1, .lst xs => plains n xs
  | _, _ => false
def plains : Nat → List D → Bool
  | _, [] => true
  | n, x :: xs => plain n x && plains n xs
end
def eqF : D → D → Option Opd := fun x y => if plain 20 x && plain 20 y then ov (.bl (eqD x y)) else none
def neF : D → D → Option Opd := fun x y => if plain 20 x && plain 20 y then ov (.bl (!eqD x y)) else none
def flat : D → Bool
  | .non => true
  | .bl _ => true
  | .int _ => true
  | .str _ => true
  | _ => false
def inF : D → D → Option Opd
  | x, .tup ys => if flat x && ys.all flat then ov (.bl (ys.any fun y => eqD y x)) else none
  | x, .lst ys => if flat x && ys.all flat then ov (.bl (ys.any fun y => eqD y x)) else none
  | _, _ => none
def notInF : D → D → Option Opd
  | x, .tup ys => if flat x && ys.all flat then ov (.bl (!ys.any fun y => eqD y x)) else none
  | x, .lst ys => if flat x && ys.all flat then ov (.bl (!ys.any fun y => eqD y x)) else none
  | _, _ => none
def isNon : D → Bool
  | .non => true
  | _ => false
def isNF : D → Option Opd := fun x => ov (.bl (isNon x))
def isNotNF : D → Option Opd := fun x => ov (.bl (!isNon x))
/-- xs[i] -/
def ixD (xs : List D) (i : Int) : Option D := if 0 ≤ i then (if i < xs.length then xs[i.toNat]? else none) else if -(xs.length : Int) ≤ i then xs[(i + xs.length).toNat]? else none
def ixF : D → D → Option Opd
  | .lst xs, .int i => (ixD xs i).map .val
  | .scr xs, .int i => (ixD xs i).map .val
  | .tup xs, .int i => (ixD xs i).map .val
  | _, _ => none
def sIx (n d : Nat)
    : Option Int → Nat
  | none => d
  | some v =>
      if v < 0 then (v + (n : Int)).toNat else min v.toNat n
def cut {α : Type} (xs : List α) (lo hi : Option Int) : List α := (xs.drop (sIx xs.length 0 lo)).take (sIx xs.length xs.length hi - sIx xs.length 0 lo)
def slF : D → Option Int → Option Int → Option Opd
  | .lst xs, lo, hi => of (.lst (cut xs lo hi))
  | .tup xs, lo, hi => ov (.tup (cut xs lo hi))
  | _, _, _ => none
/-! ### built-ins by data -/
def lenF : List D → Option Opd
  | [.lst xs] => ov (.int xs.length)
  | [.scr xs] => ov (.int xs.length)
  | [.tup xs] => ov (.int xs.length)
  | _ => none
def absF : List D → Option Opd
  | [.int i] => ov (.int (if i < 0 then -i else i))
  | _ => none
def intF : List D → Option Opd
  | [.int i] => ov (.int i)
  | [.bl k] => ov (.int (if k then 1 else 0))
  | _ => none
def listF : List D → Option Opd
  | [.lst xs] => of (.lst xs)
  | [.tup xs] => of (.lst xs)
  | _ => none
def tupleF : List D → Option Opd
  | [.lst xs] => ov (.tup xs)
  | [.tup xs] => ov (.tup xs)
  | _ => none
/-- all ints -/
def intsOf : List D → Option (List Int)
  | [] => some []
  | .int i :: r => (intsOf r).map (i :: ·)
  | _ => none
def maxI : Int → List Int → Int
  | m, [] => m
  | m, x :: r => maxI (if m < x then x else m) r
def maxF : List D → Option Opd
  | [.lst xs] => match intsOf xs with
    | some (x :: r) => ov (.int (maxI x r))
    | _ => none
  | _ => none
/-- max(xs, default=k) -/
def maxDF : D → D → Option Opd
  | .lst xs, k => match intsOf xs with
    | some (x :: r) => ov (.int (maxI x r))
    | some [] => if flat k then ov k else none
    | _ => none
  | .tup xs, k => match intsOf xs with
    | some (x :: r) => ov (.int (maxI x r))
    | some [] => if flat k then ov k else none
    | _ => none
  | _, _ => none
def rgOk (a b : Int) : Bool := inLine a && inLine b && decide (b - a ≤ 1000000)
def listRgF (a b : Int) : Option Opd := if rgOk a b then of (.lst (zInts a (b - a).toNat)) else none
def tupRgF (a b : Int) : Option Opd := if rgOk a b then ov (.tup (zInts a (b - a).toNat)) else none
/-- tuple(range(a, b, -1)) -/
def tupRdF (a b : Int) : Option Opd := if rgOk b a then ov (.tup (stepInts a (-1) (a - b).toNat)) else none
/-- isinstance(x, T), T a built-in class by name -/
def isTy (t : String) : D → Option Bool
  | .non => some (decide (t = "NoneType"))
  | .bl _ => some (decide (t = "bool") || decide (t = "int"))
  | .int _ => some (decide (t = "int"))
  | .str _ => some (decide (t = "str"))
  | .tup _ => some (decide (t = "tuple"))
  | .lst _ => some (decide (t = "list"))
  | .scr _ => some (decide (t = "list"))
  | .dK _ => none
  | .dT _ => none
  | .ins _ _ => none
def isTyF (t : String) : D → Option Opd := fun d => (isTy t d).map fun b => .val (.bl b)
/-! ### methods by data -/
def appendM : D → List D → Option (D × D)
  | .lst xs, [y] => if xs.length < 1000000 then some (.non, .lst (xs ++ [y])) else none
  | _, _ => none
def pop0M : D → List D → Option (D × D)
  | .lst xs, [] => match xs[xs.length - 1]? with
    | some y => some (y, .lst xs.dropLast)
    | none => none
  | _, _ => none
def popAtM : D → List D → Option (D × D)
  | .lst xs, [.int i] => if decide (0 ≤ i) && decide (i < xs.length) && decide (xs.length < 1000000) then (match xs[i.toNat]? with
    | some y => some (y, .lst (xs.eraseIdx i.toNat))
    | none => none) else none
  | _, _ => none
def reverseM : D → List D → Option (D × D)
  | .lst xs, [] => some (.non, .lst xs.reverse)
  | _, _ => none
def findD (y : D) : Nat → List D → Option Nat
  | _, [] => none
  | n, x :: r => if eqD x y then some n else findD y (n + 1) r
def indexM : List D → List D → Option Opd
  | xs, [y] => if flat y && xs.all flat then (findD y 0 xs).map fun j => .val (.int (j : Nat)) else none
  | _, _ => none
end DP

/-! DpBase: when a heap holds data; what it is that a piece of text has a denotation. -/
namespace DP
open PySem L2

structure Gx where
  K : PySem.W.Frag
  mg : Str → Option Value
  χ : Option (Addr × Value × Option Addr)
  me : Option Addr

/-- a tuple whose object is known: it has no dict -/
def TupAt (K : PySem.W.Frag) (F : Hp) (a : Addr) (xs : List V) : Prop :=
  (∃ o : Obj, F a = some (.frz o (.tup xs)) ∧ o.dict = none) ∨
    ∃ (o : Obj) (its : Array Value) (n : Nat), K.lookup a = some o ∧ o.cls = .type "tuple" ∧ o.dict = none ∧ o.data = .seq its n ∧ its.size ≤ sizeLine ∧ Vals xs its.toList
theorem TupAt.sq {K : PySem.W.Frag} {F : Hp} {a : Addr} {xs : List V} (h : TupAt K F a xs) : SqT K F a xs := by
  rcases h with ⟨o, h, _⟩ | ⟨o, its, n, h1, h2, _, h3⟩
  · exact .inl (.inr ⟨o, h⟩)
  · exact .inr ⟨o, its, n, h1, h2, h3⟩
theorem TupAt.mono {K : PySem.W.Frag} {F F' : Hp} {a : Addr} {xs : List V} (e : Same F F') (h : TupAt K F a xs) : TupAt K F' a xs := by
  rcases h with ⟨o, h, d⟩ | h
  · exact .inl ⟨o, e _ _ h, d⟩
  · exact .inr h
mutual
/-- in the part F of the heap v is the data d -/
def Rep (G : Gx) (F : Hp) : D → V → Prop
  | .non, v => v = .non
  | .bl b, v => v = .bl b
  | .int i, v => v = .int i
  | .str s, v => v = .str s
  | .tup ds, v => ∃ a xs, v = .ref a ∧ TupAt G.K F a xs ∧ Reps G F ds xs
  | .lst ds, v => ∃ a xs, v = .ref a ∧ F a = some (.lst xs) ∧ Reps G F ds xs
  | .scr ds, v => ∃ a xs, v = .ref a ∧ SqL G.K F a xs ∧ Reps G F ds xs
  | .dK kvs, v => ∃ a xs, v = .ref a ∧ F a = some (.dK xs) ∧ RepK G F kvs xs
  | .dT kvs, v => ∃ a xs, v = .ref a ∧ F a = some (.dT xs) ∧ RepT G F kvs xs
  | .ins c fs, v => ∃ a C dx xs, v = .ref a ∧ F a = some (.ins C dx xs) ∧ G.mg c = some (.ref C) ∧ RepF G F fs xs
def RepK (G : Gx) (F : Hp) : List (Sum Int Str × D) → List (Key × V) → Prop
  | [], xs => xs = []
  | (k, d) :: r, xs => ∃ v s, xs = (k, v) :: s ∧ Rep G F d v ∧ RepK G F r s
def RepT (G : Gx) (F : Hp) : List (List (Sum Int Str) × D) → List (List Key × V) → Prop
  | [], xs => xs = []
  | (k, d) :: r, xs => ∃ v s, xs = (k, v) :: s ∧ Rep G F d v ∧ RepT G F r s
def RepF (G : Gx) (F : Hp) : List (Str × D) → List (Str × V) → Prop
  | [], xs => xs = []
  | (k, d) :: r, xs => ∃ v s, xs = (k, v) :: s ∧ Rep G F d v ∧ RepF G F r s
def Reps (G : Gx) (F : Hp) : List D → List V → Prop
  | [], vs => vs = []
  | d :: ds, vs => ∃ v r, vs = v :: r ∧ Rep G F d v ∧ Reps G F ds r
end

section
variable {G : Gx} {F F' : Hp}
theorem same_t {K : PySem.W.Frag} {H H' : Hp} {a : Addr} {xs : List V} (e : Same H H') (h : SqT K H a xs) : SqT K H' a xs := Evl.ex_t e h
mutual
theorem Rep.mono (e : Same F F') : ∀ {d : D} {v : V}, Rep G F d v → Rep G F' d v
  | .non, _, h => h
  | .bl _, _, h => h
  | .int _, _, h => h
  | .str _, _, h => h
  | .tup ds, _, h => by
    obtain ⟨a, xs, rfl, hs, hr⟩ := h
    exact ⟨a, xs, rfl, hs.mono e, Reps.mono e hr⟩
  | .lst ds, _, h => by
    obtain ⟨a, xs, rfl, hs, hr⟩ := h
    exact ⟨a, xs, rfl, e _ _ hs, Reps.mono e hr⟩
  | .scr ds, _, h => by
    obtain ⟨a, xs, rfl, hs, hr⟩ := h
    exact ⟨a, xs, rfl, e.seq hs, Reps.mono e hr⟩
  | .dK kvs, _, h => by
    obtain ⟨a, xs, rfl, hs, hr⟩ := h
    exact ⟨a, xs, rfl, e _ _ hs, RepK.mono e hr⟩
  | .dT kvs, _, h => by
    obtain ⟨a, xs, rfl, hs, hr⟩ := h
    exact ⟨a, xs, rfl, e _ _ hs, RepT.mono e hr⟩
  | .ins c fs, _, h => by
    obtain ⟨a, C, dx, xs, rfl, hs, hg, hr⟩ := h
    exact ⟨a, C, dx, xs, rfl, e _ _ hs, hg, RepF.mono e hr⟩
theorem RepK.mono (e : Same F F') : ∀ {ds : List (Sum Int Str × D)} {vs : List (Key × V)}, RepK G F ds vs → RepK G F' ds vs
  | [], _, h => h
  | (k, d) :: ds, _, h => by
    obtain ⟨v, r, rfl, h1, h2⟩ := h
    exact ⟨v, r, rfl, Rep.mono e h1, RepK.mono e h2⟩
theorem RepT.mono (e : Same F F') : ∀ {ds : List (List (Sum Int Str) × D)} {vs : List (List Key × V)}, RepT G F ds vs → RepT G F' ds vs
  | [], _, h => h
  | (k, d) :: ds, _, h => by
    obtain ⟨v, r, rfl, h1, h2⟩ := h
    exact ⟨v, r, rfl, Rep.mono e h1, RepT.mono e h2⟩
theorem RepF.mono (e : Same F F') : ∀ {ds : List (Str × D)} {vs : List (Str × V)}, RepF G F ds vs → RepF G F' ds vs
  | [], _, h => h
  | (k, d) :: ds, _, h => by
    obtain ⟨v, r, rfl, h1, h2⟩ := h
    exact ⟨v, r, rfl, Rep.mono e h1, RepF.mono e h2⟩
theorem Reps.mono (e : Same F F') : ∀ {ds : List D} {vs : List V}, Reps G F ds vs → Reps G F' ds vs
  | [], _, h => h
  | d :: ds, _, h => by
    obtain ⟨v, r, rfl, h1, h2⟩ := h
    exact ⟨v, r, rfl, Rep.mono e h1, Reps.mono e h2⟩
end
theorem Reps.length : ∀ {ds : List D} {vs : List V}, Reps G F ds vs → vs.length = ds.length
  | [], _, h => by rw [show _ = [] from h]; rfl
  | d :: ds, _, h => by
    obtain ⟨v, r, rfl, _, h2⟩ := h
    show r.length + 1 = ds.length + 1
    rw [Reps.length h2]
theorem Reps.get : ∀ {ds : List D} {vs : List V} {i : Nat} {d : D}, Reps G F ds vs → ds[i]? = some d → ∃ v, vs[i]? = some v ∧ Rep G F d v
  | [], _, i, d, _, e => by simp at e
  | d :: ds, _, 0, d', h, e => by
    obtain ⟨v, r, rfl, h1, h2⟩ := h
    have : d = d' := by simpa using e
    subst this
    exact ⟨v, rfl, h1⟩
  | d :: ds, _, i + 1, d', h, e => by
    obtain ⟨v, r, rfl, h1, h2⟩ := h
    obtain ⟨w, hw, hr⟩ := Reps.get (i := i) h2 (by simpa using e)
    exact ⟨w, by simpa using hw, hr⟩
theorem Reps.get' {ds : List D} {vs : List V} {i : Nat} {v : V} (h : Reps G F ds vs) (e : vs[i]? = some v) : ∃ d, ds[i]? = some d ∧ Rep G F d v := by
  have hi : i < vs.length := (List.getElem?_eq_some_iff.mp e).1
  have hi' : i < ds.length := by rw [← h.length]; exact hi
  obtain ⟨w, hw, hr⟩ := h.get (List.getElem?_eq_getElem hi')
  rw [e] at hw
  cases hw
  exact ⟨_, List.getElem?_eq_getElem hi', hr⟩
theorem Reps.append : ∀ {ds es : List D} {vs ws : List V}, Reps G F ds vs → Reps G F es ws → Reps G F (ds ++ es) (vs ++ ws)
  | [], _, _, _, h, k => by rw [show _ = [] from h]; exact k
  | d :: ds, es, _, ws, h, k => by
    obtain ⟨v, r, rfl, h1, h2⟩ := h
    exact ⟨v, r ++ ws, rfl, h1, Reps.append h2 k⟩
theorem Reps.one {d : D} {v : V} (h : Rep G F d v) : Reps G F [d] [v] := ⟨v, [], rfl, h, rfl⟩
theorem Reps.of {ds : List D} {vs : List V} (hl : vs.length = ds.length) (h : ∀ (i : Nat) (d : D) (v : V), ds[i]? = some d → vs[i]? = some v → Rep G F d v) : Reps G F ds vs := by
  induction ds generalizing vs with
  | nil => exact List.length_eq_zero_iff.mp hl
  | cons d ds ih =>
    cases vs with
    | nil => simp at hl
    | cons v vs =>
      refine ⟨v, vs, rfl, h 0 d v rfl rfl, ih (by simpa using hl) fun i d' v' e1 e2 => h (i + 1) d' v' (by simpa using e1) (by simpa using e2)⟩
theorem Reps.set {ds : List D} {vs : List V} {d : D} {v : V} (h : Reps G F ds vs) (r : Rep G F d v) (i : Nat) : Reps G F (ds.set i d) (vs.set i v) := by
  refine Reps.of (by rw [List.length_set, List.length_set, h.length]) fun j d' v' e1 e2 => ?_
  by_cases hj : i = j
  · subst hj
    rw [List.getElem?_set] at e1 e2
    simp only [if_true] at e1 e2
    split at e1
    · split at e2
      · cases e1; cases e2; exact r
      · cases e2
    · cases e1
  · rw [List.getElem?_set_ne hj] at e1 e2
    obtain ⟨w, hw, hr⟩ := h.get e1
    rw [e2] at hw
    cases hw
    exact hr
theorem Reps.map {ds : List D} {vs : List V} (f : D → V) (hf : vs = ds.map f) (h : ∀ d ∈ ds, Rep G F d (f d)) : Reps G F ds vs := by
  subst hf
  refine Reps.of (by simp) fun i d v e1 e2 => ?_
  rw [List.getElem?_map, e1] at e2
  cases e2
  exact h d (List.mem_of_getElem? e1)
/-- sublists by places -/
theorem Reps.pick {ds : List D} {vs : List V} (h : Reps G F ds vs) {ds' : List D} {vs' : List V} (hl : vs'.length = ds'.length) (f : Nat → Nat) (h1 : ∀ (i : Nat) (d : D), ds'[i]? = some d → ds[f i]? = some d) (h2 : ∀ (i : Nat) (v : V), vs'[i]? = some v → vs[f i]? = some v) : Reps G F ds' vs' :=
  Reps.of hl fun i d v e1 e2 => by
    obtain ⟨w, hw, hr⟩ := h.get (h1 i d e1)
    rw [h2 i v e2] at hw
    cases hw
    exact hr
theorem Reps.take {ds : List D} {vs : List V} (h : Reps G F ds vs) (n : Nat) : Reps G F (ds.take n) (vs.take n) :=
  h.pick (by simp [h.length]) id (fun i d e => by
    rw [List.getElem?_take] at e
    split at e
    · exact e
    · cases e) (fun i d e => by
    rw [List.getElem?_take] at e
    split at e
    · exact e
    · cases e)
theorem Reps.drop {ds : List D} {vs : List V} (h : Reps G F ds vs) (n : Nat) : Reps G F (ds.drop n) (vs.drop n) :=
  h.pick (by simp [h.length]) (fun i => n + i) (fun i d e => by rw [List.getElem?_drop] at e; exact e) (fun i d e => by rw [List.getElem?_drop] at e; exact e)
end

/-! ### what is shared, what is own -/
structure Ext (P F F' : Hp) : Prop where
  sub : Same F F'
  new : ∀ a o, F' a = some o → F a = some o ∨ P a = none
theorem Ext.refl (P F : Hp) : Ext P F F := ⟨Same.refl _, fun _ _ h => .inl h⟩
theorem Ext.trans {P F F' F'' : Hp} (a : Ext P F F') (b : Ext P F' F'') : Ext P F F'' := ⟨a.sub.trans b.sub, fun x o h => by
  rcases b.new x o h with h | h
  · exact a.new x o h
  · exact .inr h⟩
/-- by one address that P does not hold -/
theorem Ext.one {P F : Hp} {a : Addr} (o : HO) (hP : P a = none) (hF : F a = none) : Ext P F (upd F a o) := ⟨fun b u e => by rw [upd_ne (ne_of_none e hF)]; exact e, fun b u e => by
  by_cases hb : b = a
  · subst hb; exact .inr hP
  · rw [upd_ne hb] at e; exact .inl e⟩

def OwnAt (G : Gx) (F H : Hp) : D → Addr → Prop
  | .lst ds, a => ∃ xs, H a = some (.lst xs) ∧ Reps G F ds xs
  | .dK ds, a => ∃ xs, H a = some (.dK xs) ∧ RepK G F ds xs
  | .dT ds, a => ∃ xs, H a = some (.dT xs) ∧ RepT G F ds xs
  | .ins c ds, a => ∃ C dx xs, H a = some (.ins C dx xs) ∧ G.mg c = some (.ref C) ∧ RepF G F ds xs
  | _, _ => False
theorem OwnAt.mono {G : Gx} {F F' H H' : Hp} {d : D} {a : Addr} (e : Same F F') (h : H' a = H a) (o : OwnAt G F H d a) : OwnAt G F' H' d a := by
  cases d with
  | lst ds =>
    obtain ⟨xs, h1, h2⟩ := o
    exact ⟨xs, h.trans h1, h2.mono e⟩
  | dK ds =>
    obtain ⟨xs, h1, h2⟩ := o
    exact ⟨xs, h.trans h1, h2.mono e⟩
  | dT ds =>
    obtain ⟨xs, h1, h2⟩ := o
    exact ⟨xs, h.trans h1, h2.mono e⟩
  | ins c ds =>
    obtain ⟨C, dx, xs, h1, h2, h3⟩ := o
    exact ⟨C, dx, xs, h.trans h1, h2, h3.mono e⟩
  | _ => exact o.elim
/-- an own object is made shared -/
theorem OwnAt.some {G : Gx} {F H : Hp} {d : D} {a : Addr} (o : OwnAt G F H d a) : ∃ u, H a = some u := by
  cases d with
  | lst ds => obtain ⟨xs, h1, _⟩ := o; exact ⟨_, h1⟩
  | dK ds => obtain ⟨xs, h1, _⟩ := o; exact ⟨_, h1⟩
  | dT ds => obtain ⟨xs, h1, _⟩ := o; exact ⟨_, h1⟩
  | ins c ds => obtain ⟨C, dx, xs, h1, _⟩ := o; exact ⟨_, h1⟩
  | _ => exact o.elim
theorem OwnAt.freeze {G : Gx} {F H : Hp} {d : D} {a : Addr} {u : HO} (o : OwnAt G F H d a) (hu : H a = Option.some u) (hF : F a = none) : Rep G (upd F a u) d (.ref a) := by
  cases d with
  | lst ds =>
    obtain ⟨xs, h1, h2⟩ := o
    rw [hu] at h1
    cases h1
    exact ⟨a, xs, rfl, upd_same, h2.mono fun b u e => by rw [upd_ne (ne_of_none e hF)]; exact e⟩
  | dK ds =>
    obtain ⟨xs, h1, h2⟩ := o
    rw [hu] at h1
    cases h1
    exact ⟨a, xs, rfl, upd_same, h2.mono fun b u e => by rw [upd_ne (ne_of_none e hF)]; exact e⟩
  | dT ds =>
    obtain ⟨xs, h1, h2⟩ := o
    rw [hu] at h1
    cases h1
    exact ⟨a, xs, rfl, upd_same, h2.mono fun b u e => by rw [upd_ne (ne_of_none e hF)]; exact e⟩
  | ins c ds =>
    obtain ⟨C, dx, xs, h1, h2, h3⟩ := o
    rw [hu] at h1
    cases h1
    exact ⟨a, C, dx, xs, rfl, upd_same, h2, h3.mono fun b u e => by rw [upd_ne (ne_of_none e hF)]; exact e⟩
  | _ => exact o.elim

/-- an exception of the class c, that carries fs -/
def ExcOk (G : Gx) (F : Hp) (c : Str) (fs : List D) (cls : Value) (d : Option Addr) (H : Hp) : Prop := G.mg c = some cls ∧ ((fs = [] ∧ d = none) ∨ ∃ fl dd xs, fs = [.ins "" fl] ∧ d = some dd ∧ F dd = some (.xd xs) ∧ RepF G F fl xs)
theorem ExcOk.mono {G : Gx} {F F' H H' : Hp} {c : Str} {fs : List D} {cls : Value} {d : Option Addr} (e : Same F F') (h : ExcOk G F c fs cls d H) : ExcOk G F' c fs cls d H' := by
  obtain ⟨h1, h2 | ⟨fl, dd, xs, h3, h4, h5, h6⟩⟩ := h
  · exact ⟨h1, .inl h2⟩
  · exact ⟨h1, .inr ⟨fl, dd, xs, h3, h4, e _ _ h5, h6.mono e⟩⟩

def SlotOk (G : Gx) (P F H : Hp) (v : Option (Option V)) : Slot → Prop
  | .no => True
  | .sh d => ∃ x, v = some (some x) ∧ Rep G F d x
  | .ow d => ∃ a, v = some (some (.ref a)) ∧ P a = none ∧ F a = none ∧ OwnAt G F H d a
  | .ex c fs => ∃ a cls d, G.χ = some (a, cls, d) ∧ v = some (some (.ref a)) ∧ ExcOk G F c fs cls d F

structure EnvOk (G : Gx) (P F H : Hp) (σ : St) (Γ : Env) : Prop where
  pf : Same P H
  fh : Same F H
  len : Γ.length = σ.length
  slot : ∀ (i : Nat) (s : Slot), Γ[i]? = some s → SlotOk G P F H σ[i]? s
  dis : ∀ (i j : Nat) (a : Addr) (d e : D), Γ[i]? = some (.ow d) → Γ[j]? = some (.ow e) → σ[i]? = some (some (.ref a)) → σ[j]? = some (some (.ref a)) → i = j
  me0 : ∀ x, G.me = some x → σ[0]? = some (some (.ref x))

def OpdOk (G : Gx) (P F H : Hp) (σ : St) (Γ : Env) : Opd → V → Prop
  | .val d, v => Rep G F d v
  | .fresh d, v => ∃ a, v = .ref a ∧ P a = none ∧ F a = none ∧ OwnAt G F H d a ∧ ∀ (i : Nat) (e : D), Γ[i]? = some (.ow e) → σ[i]? ≠ some (some (.ref a))
  | .own i, v => (∃ d, slotD Γ[i]? = some d) ∧ σ[i]? = some (some v)

/-- an operand that is only read -/
def WRep (G : Gx) (F H : Hp) (d : D) (v : V) : Prop := Rep G F d v ∨ ∃ a, v = .ref a ∧ OwnAt G F H d a

section
variable {G : Gx} {P F F' H H' : Hp} {σ : St} {Γ : Env}
theorem SlotOk.mono {v : Option (Option V)} {s : Slot} (h : SlotOk G P F H v s) (e : Same F F') (k : ∀ a d, s = .ow d → v = some (some (.ref a)) → F' a = none ∧ H' a = H a) : SlotOk G P F' H' v s := by
  cases s with
  | no => trivial
  | sh d => obtain ⟨x, h1, h2⟩ := h; exact ⟨x, h1, h2.mono e⟩
  | ow d =>
    obtain ⟨a, h1, h2, h3, h4⟩ := h
    obtain ⟨k1, k2⟩ := k a d rfl h1
    exact ⟨a, h1, h2, k1, h4.mono e k2⟩
  | ex c fs => obtain ⟨a, cls, d, h1, h2, h3⟩ := h; exact ⟨a, cls, d, h1, h2, h3.mono e⟩
/-- the heap grows, what was is as it was -/
theorem EnvOk.grow (h : EnvOk G P F H σ Γ) (e : Same H H') : EnvOk G P F H' σ Γ where
  pf := h.pf.trans e
  fh := h.fh.trans e
  len := h.len
  slot := fun i s hs => (h.slot i s hs).mono (Same.refl _) fun a d hd hv => by
    subst hd
    obtain ⟨b, h1, _, h3, h4⟩ := h.slot i _ hs
    rw [h1] at hv
    cases hv
    obtain ⟨u, hu⟩ := h4.some
    exact ⟨h3, (e _ _ hu).trans hu.symm⟩
  dis := h.dis
  me0 := h.me0
/-- a part of the heap that no slot owns is shared -/
theorem EnvOk.share {a : Addr} {u : HO} (h : EnvOk G P F H σ Γ) (hu : H a = some u) (hF : F a = none) (hO : ∀ (i : Nat) (e : D), Γ[i]? = some (.ow e) → σ[i]? ≠ some (some (.ref a))) : EnvOk G P (upd F a u) H σ Γ where
  pf := h.pf
  fh := fun b o e => by
    by_cases hb : b = a
    · subst hb; rw [upd_same] at e; cases e; exact hu
    · rw [upd_ne hb] at e; exact h.fh b o e
  len := h.len
  slot := fun i s hs => (h.slot i s hs).mono (fun b o e => by rw [upd_ne (ne_of_none e hF)]; exact e) fun b d hd hv => by
    subst hd
    obtain ⟨c, h1, _, h3, _⟩ := h.slot i _ hs
    have hv' := hv
    rw [h1] at hv
    cases hv
    have hne : b ≠ a := fun z => hO i d hs (by rw [← z]; exact hv')
    exact ⟨by rw [upd_ne hne]; exact h3, rfl⟩
  dis := h.dis
  me0 := h.me0
theorem EnvOk.fresh_none (h : EnvOk G P F H σ Γ) {a : Addr} (hn : H a = none) : F a = none ∧ P a = none := ⟨h.fh.free hn, h.pf.free hn⟩
/-- a new object -/
theorem EnvOk.new {a : Addr} {u : HO} (h : EnvOk G P F H σ Γ) (hn : H a = none) : EnvOk G P F (upd H a u) σ Γ := h.grow fun b o e => by rw [upd_ne (ne_of_none e hn)]; exact e
theorem EnvOk.notOwn (h : EnvOk G P F H σ Γ) {a : Addr} (hn : H a = none) : ∀ (i : Nat) (e : D), Γ[i]? = some (.ow e) → σ[i]? ≠ some (some (.ref a)) := fun i e hs hv => by
  obtain ⟨b, h1, _, _, h4⟩ := h.slot i _ hs
  rw [h1] at hv
  cases hv
  obtain ⟨u, hu⟩ := h4.some
  rw [hn] at hu
  cases hu
/-- a new object that is shared at once -/
theorem EnvOk.newSh {a : Addr} {u : HO} (h : EnvOk G P F H σ Γ) (hn : H a = none) : EnvOk G P (upd F a u) (upd H a u) σ Γ ∧ Ext P F (upd F a u) :=
  ⟨(h.new hn).share upd_same (h.fresh_none hn).1 (h.notOwn hn), Ext.one u (h.fresh_none hn).2 (h.fresh_none hn).1⟩
/-- what is read -/
theorem OpdOk.read {o : Opd} {v : V} {d : D} (h : EnvOk G P F H σ Γ) (ho : OpdOk G P F H σ Γ o v) (hd : o.get Γ = some d) : WRep G F H d v := by
  cases o with
  | val d' => cases hd; exact .inl ho
  | fresh d' =>
    cases hd
    obtain ⟨a, h1, _, _, h4, _⟩ := ho
    exact .inr ⟨a, h1, h4⟩
  | own i =>
    obtain ⟨_, hv⟩ := ho
    have hd : slotD Γ[i]? = some d := hd
    cases hs : Γ[i]? with
    | none => rw [hs] at hd; cases hd
    | some s =>
      rw [hs] at hd
      cases s with
      | sh d' =>
        cases hd
        obtain ⟨x, h1, h2⟩ := h.slot i _ hs
        rw [hv] at h1
        cases h1
        exact .inl h2
      | ow d' =>
        cases hd
        obtain ⟨a, h1, _, _, h4⟩ := h.slot i _ hs
        rw [hv] at h1
        cases h1
        exact .inr ⟨a, rfl, h4⟩
      | no => cases hd
      | ex c fs => cases hd
/-- what is no slot's own is shared, and may wait -/
theorem OpdOk.strong {o : Opd} {v : V} {d : D} (h : EnvOk G P F H σ Γ) (ho : OpdOk G P F H σ Γ o v) (hd : o.str = some d) : ∃ F1, Ext P F F1 ∧ EnvOk G P F1 H σ Γ ∧ Rep G F1 d v := by
  cases o with
  | val d' => cases hd; exact ⟨F, Ext.refl _ _, h, ho⟩
  | fresh d' =>
    cases hd
    obtain ⟨a, rfl, h2, h3, h4, h5⟩ := ho
    obtain ⟨u, hu⟩ := h4.some
    exact ⟨upd F a u, Ext.one u h2 h3, h.share hu h3 h5, h4.freeze hu h3⟩
  | own i => cases hd
/-- an operand that waits: what is new is shared meanwhile -/
theorem OpdOk.wait {o : Opd} {v : V} (h : EnvOk G P F H σ Γ) (ho : OpdOk G P F H σ Γ o v) : ∃ F1, Ext P F F1 ∧ EnvOk G P F1 H σ Γ ∧
    (∀ P2 F2 H2 Γ2 d, Same F1 F2 → EnvOk G P2 F2 H2 σ Γ2 → o.get Γ2 = some d → WRep G F2 H2 d v) ∧ (∀ F2 d, Same F1 F2 → o.str = some d → Rep G F2 d v) := by
  cases o with
  | val d' => exact ⟨F, Ext.refl _ _, h, fun _ F2 _ _ d e _ hd => by cases hd; exact .inl (Rep.mono e ho), fun F2 d e hd => by cases hd; exact Rep.mono e ho⟩
  | fresh d' =>
    obtain ⟨F1, e1, h1, r1⟩ := OpdOk.strong h ho rfl
    exact ⟨F1, e1, h1, fun _ F2 _ _ d e _ hd => by cases hd; exact .inl (r1.mono e), fun F2 d e hd => by cases hd; exact r1.mono e⟩
  | own i =>
    obtain ⟨_, hv⟩ := ho
    exact ⟨F, Ext.refl _ _, h, fun P2 F2 H2 Γ2 d e h2 hd => OpdOk.read (o := .own i) h2 ⟨⟨d, hd⟩, hv⟩ hd, fun _ _ _ hd => by cases hd⟩
end

/-! ### denotations of expressions -/
def Go (G : Gx) (P F : Hp) (σ : St) (Γ : Env) (o : Opd) (Q : VK) : Prop := ∀ v F' H', Ext P F F' → EnvOk G P F' H' σ Γ → OpdOk G P F' H' σ Γ o v → Q v H'
def GoX (G : Gx) (W : WX) (P F : Hp) (σ : St) (Γ : Env) (c : Str) (fs : List D) : Prop := ∀ F' H' cls d, Ext P F F' → EnvOk G P F' H' σ Γ → ExcOk G F' c fs cls d H' → W cls d σ H'
def rd (G : Gx) (W : WX) (e : E) : TE := fun σ H Q => ∃ P F Γ, EnvOk G P F H σ Γ ∧ match e Γ with
  | .ok o Γ' => Go G P F σ Γ' o Q
  | .exc c fs Γ' => GoX G W P F σ Γ' c fs
  | .stuck => False
def rdT (G : Gx) (W : WX) (e : T) : TT := fun σ H Q => ∃ P F Γ, EnvOk G P F H σ Γ ∧ match e Γ with
  | .ok b Γ' => ∀ F' H', Ext P F F' → EnvOk G P F' H' σ Γ' → Q b H'
  | .exc c fs Γ' => GoX G W P F σ Γ' c fs
  | .stuck => False
/-- arguments: each a value with its operand -/
def OpdsOk (G : Gx) (P F H : Hp) (σ : St) (Γ : Env) : List Opd → List V → Prop
  | [], vs => vs = []
  | o :: os, vs => ∃ v r, vs = v :: r ∧ OpdOk G P F H σ Γ o v ∧ OpdsOk G P F H σ Γ os r
/-- operands, those that are new shared already -/
def WOpds (G : Gx) (F : Hp) (σ : St) : List Opd → List V → Prop
  | [], vs => vs = []
  | o :: os, vs => ∃ v r, vs = v :: r ∧ ((∃ d, o.str = some d ∧ Rep G F d v) ∨ ∃ i, o = .own i ∧ σ[i]? = some (some v)) ∧ WOpds G F σ os r
def rdA (G : Gx) (W : WX) (t : As) : TA := fun σ H Q => ∃ P F Γ, EnvOk G P F H σ Γ ∧ match t Γ with
  | .ok os Γ' => ∀ vs F' H', Ext P F F' → EnvOk G P F' H' σ Γ' → WOpds G F' σ os vs → Q vs H'
  | .exc c fs Γ' => GoX G W P F σ Γ' c fs
  | .stuck => False

theorem PE_imp {X : Cx} {e : Expr} {t t' : TE} (h : PE X e t) (f : ∀ σ H Q, t' σ H Q → t σ H Q) : PE X e t' := ⟨fun pins s σ H Q I hq => h.run pins s σ H Q I (f σ H Q hq)⟩
theorem PT_imp {X : Cx} {e : Expr} {t t' : TT} (h : PT X e t) (f : ∀ σ H Q, t' σ H Q → t σ H Q) : PT X e t' := ⟨fun pins s σ H Q I hq => h.run pins s σ H Q I (f σ H Q hq)⟩
theorem PA_imp {X : Cx} {e : List Expr} {t t' : TA} (h : PA X e t) (f : ∀ σ H Q, t' σ H Q → t σ H Q) : PA X e t' := ⟨fun pos pins s σ H Q I hq => h.run pos pins s σ H Q I (f σ H Q hq)⟩
theorem PS_imp {X : Cx} {e : Stmt} {t t' : TS} (h : PS X e t) (f : ∀ D σ H, t' D σ H → t D σ H) : PS X e t' := ⟨fun pins s σ H D I hq => h.run pins s σ H D I (f D σ H hq)⟩
theorem PSs_imp {X : Cx} {e : List Stmt} {t t' : TS} (h : PSs X e t) (f : ∀ D σ H, t' D σ H → t D σ H) : PSs X e t' := ⟨fun pins s σ H D I hq => h.run pins s σ H D I (f D σ H hq)⟩
end DP

/-! DpOps: operators, subscripts, built-ins by data. -/
namespace DP
open PySem PySem.Spec
    PyProof.Rows L2

section
variable {G : Gx} {P F H : Hp} {σ : L2.St} {Γ : Env} {Q : VK} {v : V} {d : D} {p : Addr}
theorem WRep.non (h : WRep G F H .non v) : v = .non := by
  rcases h with h | ⟨a, _, h⟩
  · exact h
  · exact h.elim
theorem WRep.bl {b : Bool} (h : WRep G F H (.bl b) v) : v = .bl b := by
  rcases h with h | ⟨a, _, h⟩
  · exact h
  · exact h.elim
theorem WRep.int {i : Int} (h : WRep G F H (.int i) v) : v = .int i := by
  rcases h with h | ⟨a, _, h⟩
  · exact h
  · exact h.elim
theorem WRep.str {i : Str} (h : WRep G F H (.str i) v) : v = .str i := by
  rcases h with h | ⟨a, _, h⟩
  · exact h
  · exact h.elim
theorem WRep.lst {ds : List D} (fh : Same F H) (h : WRep G F H (.lst ds) v) : ∃ a xs, v = .ref a ∧ H a = some (.lst xs) ∧ Reps G F ds xs := by
  rcases h with h | ⟨a, e, h⟩
  · obtain ⟨a, xs, e, h1, h2⟩ := h
    exact ⟨a, xs, e, fh _ _ h1, h2⟩
  · obtain ⟨xs, h1, h2⟩ := h
    exact ⟨a, xs, e, h1, h2⟩
theorem WRep.scr {ds : List D} (fh : Same F H) (h : WRep G F H (.scr ds) v) : ∃ a xs, v = .ref a ∧ SqL G.K H a xs ∧ Reps G F ds xs := by
  rcases h with h | ⟨a, e, h⟩
  · obtain ⟨a, xs, e, h1, h2⟩ := h
    exact ⟨a, xs, e, fh.seq h1, h2⟩
  · exact h.elim
theorem WRep.tup {ds : List D} (fh : Same F H) (h : WRep G F H (.tup ds) v) : ∃ a xs, v = .ref a ∧ SqT G.K H a xs ∧ TupAt G.K F a xs ∧ Reps G F ds xs := by
  rcases h with h | ⟨a, e, h⟩
  · obtain ⟨a, xs, e, h1, h2⟩ := h
    exact ⟨a, xs, e, same_t fh h1.sq, h1, h2⟩
  · exact h.elim
theorem WRep.dK {ds : List (Sum Int Str × D)} (fh : Same F H) (h : WRep G F H (.dK ds) v) : ∃ a xs, v = .ref a ∧ H a = some (.dK xs) ∧ RepK G F ds xs := by
  rcases h with h | ⟨a, e, h⟩
  · obtain ⟨a, xs, e, h1, h2⟩ := h
    exact ⟨a, xs, e, fh _ _ h1, h2⟩
  · obtain ⟨xs, h1, h2⟩ := h
    exact ⟨a, xs, e, h1, h2⟩
theorem WRep.dT {ds : List (List (Sum Int Str) × D)} (fh : Same F H) (h : WRep G F H (.dT ds) v) : ∃ a xs, v = .ref a ∧ H a = some (.dT xs) ∧ RepT G F ds xs := by
  rcases h with h | ⟨a, e, h⟩
  · obtain ⟨a, xs, e, h1, h2⟩ := h
    exact ⟨a, xs, e, fh _ _ h1, h2⟩
  · obtain ⟨xs, h1, h2⟩ := h
    exact ⟨a, xs, e, h1, h2⟩
theorem WRep.ins {c : Str} {ds : List (Str × D)} (fh : Same F H) (h : WRep G F H (.ins c ds) v) : ∃ a C dx xs, v = .ref a ∧ H a = some (.ins C dx xs) ∧ G.mg c = some (.ref C) ∧ RepF G F ds xs := by
  rcases h with h | ⟨a, e, h⟩
  · obtain ⟨a, C, dx, xs, e, h1, h2, h3⟩ := h
    exact ⟨a, C, dx, xs, e, fh _ _ h1, h2, h3⟩
  · obtain ⟨C, dx, xs, h1, h2, h3⟩ := h
    exact ⟨a, C, dx, xs, e, h1, h2, h3⟩
theorem WRep.isRef {d : D} (h : WRep G F H d v) (hd : (∃ k, d = .dK k) ∨ (∃ k, d = .dT k) ∨ ∃ c fs, d = .ins c fs) : ∃ a, v = .ref a := by
  rcases hd with ⟨k, rfl⟩ | ⟨k, rfl⟩ | ⟨c, fs, rfl⟩
  · rcases h with ⟨a, _, e, _⟩ | ⟨a, e, _⟩ <;> exact ⟨a, e⟩
  · rcases h with ⟨a, _, e, _⟩ | ⟨a, e, _⟩ <;> exact ⟨a, e⟩
  · rcases h with ⟨a, _, _, _, e, _⟩ | ⟨a, e, _⟩ <;> exact ⟨a, e⟩
theorem Go.val (env : EnvOk G P F H σ Γ) (h : Go G P F σ Γ (.val d) Q) (r : Rep G F d v) : Q v H := h v F H (Ext.refl _ _) env r
theorem Go.newT {ds : List D} {xs : List V} {o : Obj} (env : EnvOk G P F H σ Γ) (h : Go G P F σ Γ (.val (.tup ds)) Q) (hn : H p = none) (hd : o.dict = none) (r : Reps G F ds xs) : Q (.ref p) (upd H p (.frz o (.tup xs))) := by
  obtain ⟨e, x⟩ := env.newSh (u := .frz o (.tup xs)) hn
  exact h _ _ _ x e ⟨p, xs, rfl, .inl ⟨o, upd_same, hd⟩, r.mono x.sub⟩
theorem Go.newL {ds : List D} {xs : List V} (env : EnvOk G P F H σ Γ) (h : Go G P F σ Γ (.fresh (.lst ds)) Q) (hn : H p = none) (r : Reps G F ds xs) : Q (.ref p) (upd H p (.lst xs)) :=
  h _ _ _ (Ext.refl _ _) (env.new hn) ⟨p, rfl, (env.fresh_none hn).2, (env.fresh_none hn).1, ⟨xs, upd_same, r⟩, env.notOwn hn⟩
theorem Reps.ints {is : List Int} : Reps G F (is.map D.int) (is.map V.int) := Reps.of (by simp) fun i d v e1 e2 => by
  rw [List.getElem?_map] at e1 e2
  cases h : is[i]? with
  | none => rw [h] at e1; cases e1
  | some k => rw [h] at e1 e2; cases e1; cases e2; rfl
end

/-! ### new tuples, their objects known -/
section
variable {X : Cx}
/-- t + u -/
def rCatZ (K : PySem.W.Frag) : R2 := fun x y H Q => ∃ a b xs ys, x = .ref a ∧ y = .ref b ∧ SqT K H a xs ∧ SqT K H b ys ∧ xs.length + ys.length ≤ sizeLine ∧
  (xs = [] → Q (.ref b) H) ∧ (xs ≠ [] → ys = [] → Q (.ref a) H) ∧ (xs ≠ [] → ys ≠ [] → ∀ (p : Addr) (o : Obj), o.dict = none → H p = none → Q (.ref p) (upd H p (.frz o (.tup (xs ++ ys)))))
theorem laidZ {pins : List (Addr × Obj)} {σ : L2.St} {H : Hp} {s : Shared} {its : List Value} {xs : List V} {t' : Nat} (I : Inv X pins σ H s) (r : Vals xs its) (hz : xs.length ≤ sizeLine) :
    Inv X pins σ (upd H s.heap.objs.size (.frz { cls := .type "tuple", data := .seq its.toArray } (.tup xs))) { s with heap := s.heap.push { cls := .type "tuple", data := .seq its.toArray }, toks := t' } :=
  I.laid (t' := t') (fun b o e => Heap.get?_push_of_some _ e) (Nat.le_refl _) (show ObjOk X.prog X.w _ _ _ (.frz _ (.tup xs)) from ⟨Heap.get?_push_size _ rfl, hz, its, r, IsTup.new _ _⟩)
theorem op_catZ : OpR X (binaryOp .Add) (rCatZ X.K) := by
  intro pn sh τ Hh x y vx vy Qk Iv rx ry hq
  obtain ⟨a, b, xs, ys, rfl, rfl, ha, hb, hz, q0, q1, q2⟩ := hq
  cases rx
  cases ry
  obtain ⟨us, r1, p1, _⟩ := Iv.tuple ha
  obtain ⟨ws, r2, p2, _⟩ := Iv.tuple hb
  by_cases hx : xs = []
  · subst hx
    cases r1
    exact cat_tup0 p1 p2 ⟨.ref b, Hh, Iv, rfl, q0 rfl⟩
  · refine HT.cat_tup p1 p2 (fun z => hx (r1.nil_iff.mp z)) (fun z => ⟨.ref a, Hh, Iv, rfl, q1 hx (r2.nil_iff.mp z)⟩) (fun z => ?_) (by rw [← r1.length, ← r2.length]; exact hz)
    exact ⟨.ref sh.heap.objs.size, _, laidZ (t' := sh.toks) Iv (r1.append r2) (by rw [List.length_append]; exact hz), rfl, q2 hx (fun e => z (r2.nil_iff.mpr e)) _ _ rfl (Iv.hok.fresh (Nat.le_refl _))⟩
/-- t[lo:hi] -/
def rSlZ (K : PySem.W.Frag) : V → Option Int → Option Int → Hp → VK → Prop := fun x lo hi H Q => ∃ a xs, x = .ref a ∧ SqT K H a xs ∧
  (HT.sIx xs.length 0 lo = 0 ∧ HT.sIx xs.length xs.length hi = xs.length → Q (.ref a) H) ∧ (¬ (HT.sIx xs.length 0 lo = 0 ∧ HT.sIx xs.length xs.length hi = xs.length) → ∀ (p : Addr) (o : Obj), o.dict = none → H p = none → Q (.ref p) (upd H p (.frz o (.tup (cutV xs lo hi)))))
theorem sl_tupZ : SlR X (rSlZ X.K) := by
  intro pn sh τ Hh x vx wl wu lo hi sla Qk Iv rx hsl plo phi hq
  obtain ⟨a, xs, rfl, hx, q1, q2⟩ := hq
  cases rx
  obtain ⟨us, r, ht, hz⟩ := Iv.tuple hx
  have hlen : us.toArray.size = xs.length := by rw [List.size_toArray, r.length]
  refine ⟨"tuple", _,
      PyProof.Rows.slot_tuple_getitem.lookup, ht.typeIs, ?_⟩
  by_cases hw : HT.sIx xs.length 0 lo = 0 ∧
      HT.sIx xs.length xs.length hi = xs.length
  · exact getItem_tuple_whole ht hsl plo phi (hlen.symm ▸ hw) ⟨.ref a, Hh, Iv, rfl, q1 hw⟩
  · refine HT.getItem_tuple_cut ht hsl plo phi (hlen.symm ▸ hw) ?_ (hlen.symm ▸ hz)
    rw [hlen]
    exact ⟨.ref sh.heap.objs.size, _, laidZ (t' := sh.toks) Iv ((r.drop (HT.sIx xs.length 0 lo)).take (HT.sIx xs.length xs.length hi - HT.sIx xs.length 0 lo)) (Nat.le_trans (cutV_length xs lo hi) hz), rfl, q2 hw _ _ rfl (Iv.hok.fresh (Nat.le_refl _))⟩
/-- tuple(x) -/
theorem call_tupleZ : CallR X (.type "tuple") (fun xs H Q => ∃ p ys, xs = [.ref p] ∧ ((SqL X.K H p ys ∧ ∀ (l : Addr) (o : Obj), o.dict = none → H l = none → Q (.ref l) (upd H l (.frz o (.tup ys)))) ∨ (SqT X.K H p ys ∧ Q (.ref p) H))) := by
  intro pn sh τ Hh xs us Qk Iv rr hq
  obtain ⟨p, ys, rfl, hq⟩ := hq
  obtain ⟨u, rfl, rx⟩ := vals1 rr
  cases rx
  rcases hq with ⟨hl, q⟩ | ⟨hl, q⟩
  · obtain ⟨ws, r1, pl, hz⟩ := Iv.list hl
    have hn := r1.length
    refine call_tuple_list pl.isList (fun h1 kp => ?_) (by rw [List.size_toArray]; omega)
    have I1 : Inv X pn τ Hh { sh with heap := h1 } := Iv.kept (t' := sh.toks) kp
    exact ⟨.ref h1.objs.size, _, laidZ (t' := sh.toks) I1 r1 hz, rfl, q _ _ rfl (I1.hok.fresh (Nat.le_refl _))⟩
  · obtain ⟨ws, r1, pl, hz⟩ := Iv.tuple hl
    exact call_tuple_same pl ⟨.ref p, Hh, Iv, rfl, q⟩
/-- (a, b, ..) -/
def tTupZ (t : TA) : TE := fun σ H Q => t σ H fun xs H1 => xs.length ≤ sizeLine ∧ ∀ (p : Addr) (o : Obj), o.dict = none → H1 p = none → Q (.ref p) (upd H1 p (.frz o (.tup xs)))
theorem pe_tupZ {x1 : _} {es : List Expr} {t : TA} {pos : Pos} (h : PA X es t) : PE X (.Tuple es x1 pos) (tTupZ t) := by
  refine ⟨fun pn sh τ Hh Qk Iv hq => ?_⟩
  refine wpAny_Tuple_spliced (thn (h.run pos pn sh τ Hh _ Iv hq) fun us s1 ⟨xs, H1, I1, r, z, q⟩ => ⟨r.length ▸ z, ?_⟩)
  exact ⟨.ref s1.heap.objs.size, _, laidZ (t' := s1.toks) I1 r z, rfl, q _ _ rfl (I1.hok.fresh (Nat.le_refl _))⟩
end

/-! ### two-place operators -/
def OpD (G : Gx) (X : Cx) (opf : Value → Value → Sem Value) (f : D → D → Option Opd) : Prop := ∃ r : R2, OpR X opf r ∧
  ∀ {P F H : Hp} {σ : L2.St} {Γ : Env} {dx dy : D} {x y : V} {o : Opd} {Q : VK}, EnvOk G P F H σ Γ → WRep G F H dx x → WRep G F H dy y → f dx dy = some o → Go G P F σ Γ o Q → r x y H Q
section
variable {G : Gx} {X : Cx}
theorem opd_I0 {opf : Value → Value → Sem Value} {g : Int → Int → Int} {f : D → D → Option Opd} (h : OpR X opf (rI0 fun i j => .int (g i j)))
    (hf : ∀ dx dy o, f dx dy = some o → ∃ i j, dx = .int i ∧ dy = .int j ∧ o = .val (.int (g i j))) : OpD G X opf f :=
  ⟨_, h, fun {P F H σ Γ dx dy x y o Q} env hx hy e q => by
    obtain ⟨i, j, rfl, rfl, rfl⟩ := hf _ _ _ e
    exact ⟨i, j, hx.int, hy.int, q.val env rfl⟩⟩
theorem opd_B0 {opf : Value → Value → Sem Value} {g : Int → Int → Bool} {f : D → D → Option Opd} (h : OpR X opf (rI0 fun i j => .bl (g i j)))
    (hf : ∀ dx dy o, f dx dy = some o → ∃ i j, dx = .int i ∧ dy = .int j ∧ o = .val (.bl (g i j))) : OpD G X opf f :=
  ⟨_, h, fun {P F H σ Γ dx dy x y o Q} env hx hy e q => by
    obtain ⟨i, j, rfl, rfl, rfl⟩ := hf _ _ _ e
    exact ⟨i, j, hx.int, hy.int, q.val env rfl⟩⟩
theorem opd_IC {opf : Value → Value → Sem Value} {C : Int → Int → Prop} {g : Int → Int → Int} {f : D → D → Option Opd} (h : OpR X opf (rI C fun i j => .int (g i j)))
    (hf : ∀ dx dy o, f dx dy = some o → ∃ i j, dx = .int i ∧ dy = .int j ∧ C i j ∧ o = .val (.int (g i j))) : OpD G X opf f :=
  ⟨_, h, fun {P F H σ Γ dx dy x y o Q} env hx hy e q => by
    obtain ⟨i, j, rfl, rfl, hc, rfl⟩ := hf _ _ _ e
    exact ⟨i, j, hx.int, hy.int, hc, q.val env rfl⟩⟩
theorem opd_sub : OpD G X (binaryOp .Sub) subF := opd_I0 op_sub fun dx dy o e => by
  unfold subF ov at e
  split at e
  · cases e; exact ⟨_, _, rfl, rfl, rfl⟩
  · cases e
theorem opd_mul : OpD G X (binaryOp .Mult) mulF := opd_IC op_mulW fun dx dy o e => by
  unfold mulF ov at e
  split at e
  · split at e
    · rename_i h
      cases e
      have h2 := h
      unfold mulOk at h2
      exact ⟨_, _, rfl, rfl, by unfold CMulW; exact of_decide_eq_true h2, rfl⟩
    · cases e
  · cases e
theorem opd_fdiv : OpD G X (binaryOp .FloorDiv) fdivF := opd_IC op_fdivW fun dx dy o e => by
  unfold fdivF ov at e
  split at e
  · split at e
    · rename_i h
      cases e
      rw [Bool.and_eq_true, decide_eq_true_eq, decide_eq_true_eq] at h
      exact ⟨_, _, rfl, rfl, h, rfl⟩
    · cases e
  · cases e
theorem opd_mod : OpD G X (binaryOp .Mod) modF := opd_IC op_mod fun dx dy o e => by
  unfold modF ov at e
  split at e
  · split at e
    · rename_i h
      cases e
      exact ⟨_, _, rfl, rfl, h, rfl⟩
    · cases e
  · cases e
theorem opd_pow : OpD G X (binaryOp .Pow) powF := opd_IC op_pow fun dx dy o e => by
  unfold powF ov at e
  split at e
  · split at e
    · rename_i h
      cases e
      rw [Bool.and_eq_true, Bool.and_eq_true, decide_eq_true_eq, decide_eq_true_eq, decide_eq_true_eq] at h
      exact ⟨_, _, rfl, rfl, ⟨h.1.1, h.1.2, h.2⟩, rfl⟩
    · cases e
  · cases e
theorem opd_lt : OpD G X (compareOp .Lt) ltF := opd_B0 op_lt fun dx dy o e => by
  unfold ltF ov at e
  split at e
  · cases e; exact ⟨_, _, rfl, rfl, rfl⟩
  · cases e
theorem opd_le : OpD G X (compareOp .LtE) leF := opd_B0 op_le fun dx dy o e => by
  unfold leF ov at e
  split at e
  · cases e; exact ⟨_, _, rfl, rfl, rfl⟩
  · cases e
theorem opd_gt : OpD G X (compareOp .Gt) gtF := opd_B0 op_gt fun dx dy o e => by
  unfold gtF ov at e
  split at e
  · cases e; exact ⟨_, _, rfl, rfl, rfl⟩
  · cases e
theorem opd_ge : OpD G X (compareOp .GtE) geF := opd_B0 op_ge fun dx dy o e => by
  unfold geF ov at e
  split at e
  · cases e; exact ⟨_, _, rfl, rfl, rfl⟩
  · cases e
theorem line_le {n : Nat} (h : n ≤ 1000000) : n ≤ sizeLine := Nat.le_trans h (by decide)
theorem line_lt {n : Nat} (h : n < 1000000) : n < sizeLine := Nat.lt_of_lt_of_le h (by decide)
theorem opd_add (hK : G.K = X.K) : OpD G X (binaryOp .Add) addF :=
  ⟨_, ((op_add.or op_cat).or op_catZ).or op_add_str, fun {P F H σ Γ dx dy x y o Q} env hx hy e q => by
    unfold addF ov of at e
    split at e
    · cases e
      exact .inl (.inl (.inl ⟨_, _, hx.int, hy.int, q.val env rfl⟩))
    · split at e
      · rename_i h
        cases e
        obtain ⟨a, xs, rfl, hxl, rx⟩ := hx.lst env.fh
        obtain ⟨b, ys, rfl, hyl, ry⟩ := hy.lst env.fh
        exact .inl (.inl (.inr ⟨a, b, xs, ys, rfl, rfl, hxl, hyl, by rw [rx.length, ry.length]; exact line_le h, fun p hp => q.newL env hp (rx.append ry)⟩))
      · cases e
    · split at e
      · rename_i h
        cases e
        obtain ⟨a, xs, rfl, hxl, hxf, rx⟩ := hx.tup env.fh
        obtain ⟨b, ys, rfl, hyl, hyf, ry⟩ := hy.tup env.fh
        rw [hK] at hxl hyl
        refine .inl (.inr ⟨a, b, xs, ys, rfl, rfl, hxl, hyl, by rw [rx.length, ry.length]; exact line_le h, fun e0 => ?_, fun _ e0 => ?_, fun _ _ p ob ho hp => ?_⟩)
        · subst e0
          refine q.val env ⟨b, ys, rfl, hyf, ?_⟩
          exact Reps.append rx ry
        · subst e0
          refine q.val env ⟨a, xs, rfl, hxf, ?_⟩
          have := Reps.append rx ry
          rwa [List.append_nil] at this
        · exact q.newT env hp ho (rx.append ry)
      · cases e
    · split at e
      · rename_i h
        cases e
        exact .inr ⟨_, _, hx.str, hy.str, line_le h, q.val env rfl⟩
      · cases e
    · cases e⟩

/-! ### == -/
mutual
def py : D → PyData
  | .non => .none
  | .bl b => .bool b
  | .int i => .int i
  | .str s => .str s
  | .tup xs => .tuple (pys xs)
  | .lst xs => .list (pys xs)
  | _ => .none
def pys : List D → List PyData
  | [] => []
  | x :: xs => py x :: pys xs
end
section
variable {F H : Hp}
mutual
theorem rep_dp (fh : Same F H) : ∀ (n : Nat) (d : D) (v : V), plain n d = true → Rep G F d v → Dp G.K H v (py d)
  | _, .non, v, _, h => by rw [show v = .non from h]; exact .non
  | _, .bl b, v, _, h => by rw [show v = .bl b from h]; exact .bl b
  | _, .int i, v, _, h => by rw [show v = .int i from h]; exact .int i
  | _, .str s, v, _, h => by rw [show v = .str s from h]; exact .str s
  | 0, .tup xs, v, p, _ => by simp only [plain, Bool.false_eq_true] at p
  | n + 1, .tup xs, v, p, h => by
    obtain ⟨a, vs, rfl, h1, h2⟩ := h
    simp only [plain] at p
    simp only [py]
    exact .tup (same_t fh h1.sq) (reps_dp fh n xs vs p h2)
  | 0, .lst xs, v, p, _ => by simp only [plain, Bool.false_eq_true] at p
  | n + 1, .lst xs, v, p, h => by
    obtain ⟨a, vs, rfl, h1, h2⟩ := h
    simp only [plain] at p
    simp only [py]
    exact .lst (SqL.of (fh _ _ h1)) (reps_dp fh n xs vs p h2)
  | n, .scr xs, v, p, _ => by cases n <;> simp only [plain, Bool.false_eq_true] at p
  | n, .dK xs, v, p, _ => by cases n <;> simp only [plain, Bool.false_eq_true] at p
  | n, .dT xs, v, p, _ => by cases n <;> simp only [plain, Bool.false_eq_true] at p
  | n, .ins c xs, v, p, _ => by cases n <;> simp only [plain, Bool.false_eq_true] at p
theorem reps_dp (fh : Same F H) : ∀ (n : Nat) (ds : List D) (vs : List V), plains n ds = true → Reps G F ds vs → DpAll G.K H vs (pys ds)
  | _, [], vs, _, h => by rw [show vs = [] from h]; exact .nil
  | n, d :: ds, vs, p, h => by
    obtain ⟨v, r, rfl, h1, h2⟩ := h
    simp only [plains, Bool.and_eq_true] at p
    exact .cons (rep_dp fh n d v p.1 h1) (reps_dp fh n ds r p.2 h2)
end
theorem wrep_dp (fh : Same F H) {n : Nat} {d : D} {v : V} (p : plain n d = true) (h : WRep G F H d v) : Dp G.K H v (py d) := by
  cases d with
  | lst xs =>
    obtain ⟨a, vs, rfl, h1, h2⟩ := h.lst fh
    cases n with
    | zero => simp only [plain, Bool.false_eq_true] at p
    | succ n =>
      simp only [plain] at p
      simp only [py]
      exact .lst (SqL.of h1) (reps_dp fh n xs vs p h2)
  | dK kvs => cases n <;> simp only [plain, Bool.false_eq_true] at p
  | dT kvs => cases n <;> simp only [plain, Bool.false_eq_true] at p
  | ins c fs => cases n <;> simp only [plain, Bool.false_eq_true] at p
  | _ =>
    rcases h with h | ⟨a, _, h⟩
    · exact rep_dp fh n _ v p h
    · exact h.elim
end
mutual
theorem eqv_py : ∀ (n m : Nat) (x y : D), plain n x = true → plain m y = true → PyData.eqv (py x) (py y) = eqD x y
  | n, m, x, y, p, q => by
    cases x <;> cases y <;> first
      | (simp only [plain, Bool.false_eq_true] at p; done)
      | (simp only [plain, Bool.false_eq_true] at q; done)
      | (cases n <;> simp only [plain, Bool.false_eq_true] at p; done)
      | (cases m <;> simp only [plain, Bool.false_eq_true] at q; done)
      | (simp only [py, PyData.eqv, eqD]; done)
      | skip
    · rename_i xs ys
      cases n with
      | zero => simp only [plain, Bool.false_eq_true] at p
      | succ n =>
        cases m with
        | zero => simp only [plain, Bool.false_eq_true] at q
        | succ m =>
          simp only [plain] at p q
          simp only [py, PyData.eqv, eqD]
          exact eqvs_pys n m xs ys p q
    · rename_i xs ys
      cases n with
      | zero => simp only [plain, Bool.false_eq_true] at p
      | succ n =>
        cases m with
        | zero => simp only [plain, Bool.false_eq_true] at q
        | succ m =>
          simp only [plain] at p q
          simp only [py, PyData.eqv, eqD]
          exact eqvs_pys n m xs ys p q
theorem eqvs_pys : ∀ (n m : Nat) (xs ys : List D), plains n xs = true → plains m ys = true → PyData.eqvAll (pys xs) (pys ys) = eqDs xs ys
  | _, _, [], [], _, _ => by simp only [pys, PyData.eqvAll, eqDs]
  | _, _, [], _ :: _, _, _ => by simp only [pys, PyData.eqvAll, eqDs]
  | _, _, _ :: _, [], _, _ => by simp only [pys, PyData.eqvAll, eqDs]
  | n, m, x :: xs, y :: ys, p, q => by
    simp only [plains, Bool.and_eq_true] at p q
    simp only [pys, PyData.eqvAll, eqDs]
    rw [eqv_py n m x y p.1 q.1, eqvs_pys n m xs ys p.2 q.2]
end
mutual
theorem shape_py : ∀ (n : Nat) (x : D), plain n x = true → (py x).canLay0 = true ∧ (py x).depth ≤ n
  | n, .non, _ => by simp only [py, PyData.canLay0, PyData.depth, Nat.zero_le, and_self]
  | n, .bl _, _ => by simp only [py, PyData.canLay0, PyData.depth, Nat.zero_le, and_self]
  | n, .int _, _ => by simp only [py, PyData.canLay0, PyData.depth, Nat.zero_le, and_self]
  | n, .str s, p => by
    simp only [plain] at p
    simp only [py, PyData.canLay0, PyData.depth, Nat.zero_le, and_true]
    exact p
  | 0, .tup _, p => by simp only [plain, Bool.false_eq_true] at p
  | 0, .lst _, p => by simp only [plain, Bool.false_eq_true] at p
  | n + 1, .tup xs, p => by
    simp only [plain] at p
    have h := shapes_pys n xs p
    simp only [py, PyData.canLay0, PyData.depth]
    exact ⟨h.1, by omega⟩
  | n + 1, .lst xs, p => by
    simp only [plain] at p
    have h := shapes_pys n xs p
    simp only [py, PyData.canLay0, PyData.depth]
    exact ⟨h.1, by omega⟩
  | n, .scr _, p => by cases n <;> simp only [plain, Bool.false_eq_true] at p
  | n, .dK _, p => by cases n <;> simp only [plain, Bool.false_eq_true] at p
  | n, .dT _, p => by cases n <;> simp only [plain, Bool.false_eq_true] at p
  | n, .ins _ _, p => by cases n <;> simp only [plain, Bool.false_eq_true] at p
theorem shapes_pys : ∀ (n : Nat) (xs : List D), plains n xs = true → PyData.canLayAll0 (pys xs) = true ∧ PyData.depthAll (pys xs) ≤ n
  | n, [], _ => by simp only [pys, PyData.canLayAll0, PyData.depthAll, Nat.zero_le, and_self]
  | n, x :: xs, p => by
    simp only [plains, Bool.and_eq_true] at p
    have h1 := shape_py n x p.1
    have h2 := shapes_pys n xs p.2
    simp only [pys, PyData.canLayAll0, PyData.depthAll, h1.1, h2.1, Bool.and_self, true_and]
    omega
end
theorem shaped_py {n : Nat} {x : D} (p : plain n x = true) (h : n ≤ 64) : SeqAt.shaped (py x) = true := by
  have s := shape_py n x p
  unfold SeqAt.shaped
  rw [s.1, Bool.true_and]
  exact decide_eq_true
      (by omega)
theorem opd_eq (hK : G.K = X.K) (hu : X.A.units + 64 < cLine) : OpD G X (compareOp .Eq) eqF :=
  ⟨_, op_eqD hu, fun {P F H σ Γ dx dy x y o Q} env hx hy e q => by
    unfold eqF ov at e
    split at e
    · rename_i h
      cases e
      rw [Bool.and_eq_true] at h
      rw [← hK]
      refine ⟨_, _, wrep_dp env.fh h.1 hx, wrep_dp env.fh h.2 hy, shaped_py h.1 (by decide), shaped_py h.2 (by decide), ?_⟩
      rw [eqv_py _ _ _ _ h.1 h.2]
      exact q.val env rfl
    · cases e⟩
theorem opd_ne (hK : G.K = X.K) (hu : X.A.units + 64 < cLine) : OpD G X (compareOp .NotEq) neF :=
  ⟨_, op_neD hu, fun {P F H σ Γ dx dy x y o Q} env hx hy e q => by
    unfold neF ov at e
    split at e
    · rename_i h
      cases e
      rw [Bool.and_eq_true] at h
      rw [← hK]
      refine ⟨_, _, wrep_dp env.fh h.1 hx, wrep_dp env.fh h.2 hy, shaped_py h.1 (by decide), shaped_py h.2 (by decide), ?_⟩
      rw [eqv_py _ _ _ _ h.1 h.2]
      exact q.val env rfl
    · cases e⟩

/-! ### in -/
theorem flat_rep {F : Hp} {d : D} {v : V} (p : flat d = true) (h : Rep G F d v) : flatV v = true := by
  cases d <;> first
    | (simp only [flat, Bool.false_eq_true] at p; done)
    | (rw [show v = _ from h]; rfl)
theorem eqV_rep {F : Hp} {d e : D} {v w : V} (p : flat d = true) (q : flat e = true) (h : Rep G F d v) (k : Rep G F e w) : eqV v w = eqD d e := by
  cases d <;> cases e <;> first
    | (simp only [flat, Bool.false_eq_true] at p; done)
    | (simp only [flat, Bool.false_eq_true] at q; done)
    | (rw [show v = _ from h, show w = _ from k]; simp only [eqV, eqD]; done)
theorem flats_rep {F : Hp} : ∀ {ds : List D} {vs : List V}, ds.all flat = true → Reps G F ds vs → vs.all flatV = true
  | [], _, _, h => by rw [show _ = [] from h]; rfl
  | d :: ds, _, p, h => by
    obtain ⟨v, r, rfl, h1, h2⟩ := h
    simp only [List.all_cons, Bool.and_eq_true] at p ⊢
    exact ⟨flat_rep p.1 h1, flats_rep p.2 h2⟩
theorem inV_rep {F : Hp} {e : D} {w : V} (q : flat e = true) (k : Rep G F e w) : ∀ {ds : List D} {vs : List V}, ds.all flat = true → Reps G F ds vs → inV w vs = ds.any fun y => eqD y e
  | [], _, _, h => by rw [show _ = [] from h]; rfl
  | d :: ds, _, p, h => by
    obtain ⟨v, r, rfl, h1, h2⟩ := h
    simp only [List.all_cons, Bool.and_eq_true] at p
    have ih := inV_rep q k p.2 h2
    unfold inV at ih ⊢
    rw [List.any_cons, List.any_cons, ih, eqV_rep p.1 q h1 k]
theorem WRep.flat {F H : Hp} {d : D} {v : V} (p : flat d = true) (h : WRep G F H d v) : Rep G F d v := by
  rcases h with h | ⟨a, _, h⟩
  · exact h
  · cases d <;> first
      | (simp only [DP.flat, Bool.false_eq_true] at p; done)
      | exact h.elim
theorem opd_in (hK : G.K = X.K) : OpD G X (compareOp .In) inF :=
  ⟨_, op_in_seq, fun {P F H σ Γ dx dy x y o Q} env hx hy e q => by
    unfold inF ov at e
    split at e
    · split at e
      · rename_i h
        cases e
        rw [Bool.and_eq_true] at h
        obtain ⟨b, ys, rfl, hyl, hyf, ry⟩ := hy.tup env.fh
        refine ⟨b, ys, rfl, .inr (by rw [← hK]; exact hyl), flat_rep h.1 (hx.flat h.1), flats_rep h.2 ry, ?_⟩
        rw [inV_rep h.1 (hx.flat h.1) h.2 ry]
        exact q.val env rfl
      · cases e
    · split at e
      · rename_i h
        cases e
        rw [Bool.and_eq_true] at h
        obtain ⟨b, ys, rfl, hyl, ry⟩ := hy.lst env.fh
        refine ⟨b, ys, rfl, .inl (SqL.of hyl), flat_rep h.1 (hx.flat h.1), flats_rep h.2 ry, ?_⟩
        rw [inV_rep h.1 (hx.flat h.1) h.2 ry]
        exact q.val env rfl
      · cases e
    · cases e⟩
theorem opd_notIn (hK : G.K = X.K) : OpD G X (compareOp .NotIn) notInF :=
  ⟨_, op_notIn_seq, fun {P F H σ Γ dx dy x y o Q} env hx hy e q => by
    unfold notInF ov at e
    split at e
    · split at e
      · rename_i h
        cases e
        rw [Bool.and_eq_true] at h
        obtain ⟨b, ys, rfl, hyl, hyf, ry⟩ := hy.tup env.fh
        refine ⟨b, ys, rfl, .inr (by rw [← hK]; exact hyl), flat_rep h.1 (hx.flat h.1), flats_rep h.2 ry, ?_⟩
        rw [inV_rep h.1 (hx.flat h.1) h.2 ry]
        exact q.val env rfl
      · cases e
    · split at e
      · rename_i h
        cases e
        rw [Bool.and_eq_true] at h
        obtain ⟨b, ys, rfl, hyl, ry⟩ := hy.lst env.fh
        refine ⟨b, ys, rfl, .inl (SqL.of hyl), flat_rep h.1 (hx.flat h.1), flats_rep h.2 ry, ?_⟩
        rw [inV_rep h.1 (hx.flat h.1) h.2 ry]
        exact q.val env rfl
      · cases e
    · cases e⟩
end
end DP

/-! DpOps2: subscripts, slices, built-ins, methods by data. -/
namespace DP
open PySem PySem.Spec
    PyProof.Rows L2

section
variable {G : Gx} {X : Cx}
/-! ### subscripts, slices -/
def IxD (G : Gx) (X : Cx) (f : D → D → Option Opd) : Prop := ∃ r : R2, IxR X r ∧
  ∀ {P F H : Hp} {σ : L2.St} {Γ : Env} {dx dy : D} {x y : V} {o : Opd} {Q : VK}, EnvOk G P F H σ Γ → WRep G F H dx x → WRep G F H dy y → f dx dy = some o → Go G P F σ Γ o Q → r x y H Q
theorem ixD_at {F : Hp} {ds : List D} {xs : List V} {i : Int} {d : D} (r : Reps G F ds xs) (h : ixD ds i = some d) : ∃ v, atI xs i = some v ∧ Rep G F d v := by
  have hl := r.length
  unfold ixD at h
  unfold atI ixN
  rw [hl]
  by_cases h0 : 0 ≤ i
  · rw [if_pos h0] at h ⊢
    by_cases h1 : i < ds.length
    · rw [if_pos h1] at h ⊢
      obtain ⟨v, hv, rv⟩ := r.get h
      exact ⟨v, hv, rv⟩
    · rw [if_neg h1] at h
      cases h
  · rw [if_neg h0] at h ⊢
    by_cases h1 : -(ds.length : Int) ≤ i
    · rw [if_pos h1] at h ⊢
      obtain ⟨v, hv, rv⟩ := r.get h
      exact ⟨v, hv, rv⟩
    · rw [if_neg h1] at h
      cases h
theorem ixd (hK : G.K = X.K) : IxD G X ixF :=
  ⟨_, IxR.or ix_list ix_tup, fun {P F H σ Γ dx dy x y o Q} env hx hy e q => by
    unfold ixF at e
    split at e
    · rename_i ds i
      cases h : ixD ds i with
      | none => rw [h] at e; cases e
      | some d =>
        rw [h] at e
        cases e
        obtain ⟨a, xs, rfl, h1, h2⟩ := hx.lst env.fh
        obtain ⟨v, hv, rv⟩ := ixD_at h2 h
        exact .inl ⟨a, xs, i, v, rfl, hy.int, SqL.of h1, hv, q.val env rv⟩
    · rename_i ds i
      cases h : ixD ds i with
      | none => rw [h] at e; cases e
      | some d =>
        rw [h] at e
        cases e
        obtain ⟨a, xs, rfl, h1, h2⟩ := hx.scr env.fh
        obtain ⟨v, hv, rv⟩ := ixD_at h2 h
        exact .inl ⟨a, xs, i, v, rfl, hy.int, by rw [← hK]; exact h1, hv, q.val env rv⟩
    · rename_i ds i
      cases h : ixD ds i with
      | none => rw [h] at e; cases e
      | some d =>
        rw [h] at e
        cases e
        obtain ⟨a, xs, rfl, h1, _, h2⟩ := hx.tup env.fh
        obtain ⟨v, hv, rv⟩ := ixD_at h2 h
        exact .inr ⟨a, xs, i, v, rfl, hy.int, by rw [← hK]; exact h1, hv, q.val env rv⟩
    · cases e⟩
theorem sIx_eq (n d : Nat) (o : Option Int) : HT.sIx n d o = sIx n d o := by
  cases o <;> rfl
theorem cut_rep {F : Hp} {ds : List D} {xs : List V} {lo hi : Option Int} (r : Reps G F ds xs) : Reps G F (cut ds lo hi) (cutV xs lo hi) := by
  unfold cut cutV
  rw [r.length, sIx_eq, sIx_eq]
  exact (r.drop _).take _
def SlD (G : Gx) (X : Cx) (f : D → Option Int → Option Int → Option Opd) : Prop := ∃ r, SlR X r ∧
  ∀ {P F H : Hp} {σ : L2.St} {Γ : Env} {dx : D} {x : V} {lo hi : Option Int} {o : Opd} {Q : VK}, EnvOk G P F H σ Γ → WRep G F H dx x → f dx lo hi = some o → Go G P F σ Γ o Q → r x lo hi H Q
theorem sld (hK : G.K = X.K) : SlD G X slF :=
  ⟨_, SlR.or sl_list sl_tupZ, fun {P F H σ Γ dx x lo hi o Q} env hx e q => by
    unfold slF ov of at e
    split at e
    · cases e
      obtain ⟨a, xs, rfl, h1, h2⟩ := hx.lst env.fh
      exact .inl ⟨a, xs, rfl, SqL.of h1, fun p hp => q.newL env hp (cut_rep h2)⟩
    · cases e
      obtain ⟨a, xs, rfl, h1, h3, h2⟩ := hx.tup env.fh
      refine .inr ⟨a, xs, rfl, by rw [← hK]; exact h1, fun hw => ?_, fun _ p ob ho hp => q.newT env hp ho (cut_rep h2)⟩
      refine q.val env ⟨a, xs, rfl, h3, ?_⟩
      have hc : cutV xs lo hi = xs := by
        unfold cutV
        rw [hw.1, hw.2, List.drop_zero, Nat.sub_zero, List.take_length]
      have := cut_rep (lo := lo) (hi := hi) h2
      rwa [hc] at this
    · cases e⟩

/-! ### built-ins by values -/
def WReps (G : Gx) (F H : Hp) : List D → List V → Prop
  | [], vs => vs = []
  | d :: ds, vs => ∃ v r, vs = v :: r ∧ WRep G F H d v ∧ WReps G F H ds r
def CBD (G : Gx) (X : Cx) (fv : Value) (f : List D → Option Opd) : Prop := ∃ r, CallR X fv r ∧
  ∀ {P F H : Hp} {σ : L2.St} {Γ : Env} {ds : List D} {vs : List V} {o : Opd} {Q : VK}, EnvOk G P F H σ Γ → WReps G F H ds vs → f ds = some o → Go G P F σ Γ o Q → r vs H Q
theorem WReps.one {F H : Hp} {d : D} {vs : List V} (h : WReps G F H [d] vs) : ∃ v, vs = [v] ∧ WRep G F H d v := by
  obtain ⟨v, r, rfl, h1, h2⟩ := h
  rw [show r = [] from h2]
  exact ⟨v, rfl, h1⟩
theorem cbd_len (hK : G.K = X.K) : CBD G X (.builtin "len") lenF :=
  ⟨_, call_len_seq, fun {P F H σ Γ ds vs o Q} env hv e q => by
    unfold lenF ov at e
    split at e
    · cases e
      obtain ⟨v, rfl, hx⟩ := hv.one
      obtain ⟨a, xs, rfl, h1, h2⟩ := hx.lst env.fh
      exact ⟨a, xs, rfl, .inl (SqL.of h1), by rw [h2.length]; exact q.val env rfl⟩
    · cases e
      obtain ⟨v, rfl, hx⟩ := hv.one
      obtain ⟨a, xs, rfl, h1, h2⟩ := hx.scr env.fh
      exact ⟨a, xs, rfl, .inl (by rw [← hK]; exact h1), by rw [h2.length]; exact q.val env rfl⟩
    · cases e
      obtain ⟨v, rfl, hx⟩ := hv.one
      obtain ⟨a, xs, rfl, h1, _, h2⟩ := hx.tup env.fh
      exact ⟨a, xs, rfl, .inr (by rw [← hK]; exact h1), by rw [h2.length]; exact q.val env rfl⟩
    · cases e⟩
theorem cbd_abs : CBD G X (.builtin "abs") absF :=
  ⟨_, call_abs, fun {P F H σ Γ ds vs o Q} env hv e q => by
    unfold absF ov at e
    split at e
    · cases e
      obtain ⟨v, rfl, hx⟩ := hv.one
      exact ⟨_, by rw [hx.int], q.val env rfl⟩
    · cases e⟩
theorem cbd_int : CBD G X (.type "int") intF :=
  ⟨_, call_int1, fun {P F H σ Γ ds vs o Q} env hv e q => by
    unfold intF ov at e
    split at e
    · cases e
      obtain ⟨v, rfl, hx⟩ := hv.one
      exact .inl ⟨_, by rw [hx.int], q.val env rfl⟩
    · cases e
      obtain ⟨v, rfl, hx⟩ := hv.one
      exact .inr ⟨_, by rw [hx.bl], q.val env rfl⟩
    · cases e⟩
theorem cbd_list (hK : G.K = X.K) : CBD G X (.type "list") listF :=
  ⟨_, call_list_of, fun {P F H σ Γ ds vs o Q} env hv e q => by
    unfold listF of at e
    split at e
    · cases e
      obtain ⟨v, rfl, hx⟩ := hv.one
      obtain ⟨a, xs, rfl, h1, h2⟩ := hx.lst env.fh
      exact ⟨a, xs, rfl, .inl (SqL.of h1), fun p hp => q.newL env hp h2⟩
    · cases e
      obtain ⟨v, rfl, hx⟩ := hv.one
      obtain ⟨a, xs, rfl, h1, _, h2⟩ := hx.tup env.fh
      exact ⟨a, xs, rfl, .inr (by rw [← hK]; exact h1), fun p hp => q.newL env hp h2⟩
    · cases e⟩
theorem cbd_tuple (hK : G.K = X.K) : CBD G X (.type "tuple") tupleF :=
  ⟨_, call_tupleZ, fun {P F H σ Γ ds vs o Q} env hv e q => by
    unfold tupleF ov at e
    split at e
    · cases e
      obtain ⟨v, rfl, hx⟩ := hv.one
      obtain ⟨a, xs, rfl, h1, h2⟩ := hx.lst env.fh
      exact ⟨a, xs, rfl, .inl ⟨SqL.of h1, fun p ob ho hp => q.newT env hp ho h2⟩⟩
    · cases e
      obtain ⟨v, rfl, hx⟩ := hv.one
      obtain ⟨a, xs, rfl, h1, h3, h2⟩ := hx.tup env.fh
      exact ⟨a, xs, rfl, .inr ⟨by rw [← hK]; exact h1, q.val env ⟨a, xs, rfl, h3, h2⟩⟩⟩
    · cases e⟩
theorem ints_rep {F : Hp} : ∀ {ds : List D} {is : List Int} {xs : List V}, intsOf ds = some is → Reps G F ds xs → xs = is.map V.int
  | [], is, xs, h, r => by
    cases h
    exact r
  | .int i :: ds, is, xs, h, r => by
    obtain ⟨v, r', rfl, h1, h2⟩ := r
    unfold intsOf at h
    cases h3 : intsOf ds with
    | none => rw [h3] at h; cases h
    | some js =>
      rw [h3] at h
      cases h
      rw [ints_rep h3 h2, show v = .int i from h1]
      rfl
  | .non :: _, _, _, h, _ => by cases h
  | .bl _ :: _, _, _, h, _ => by cases h
  | .str _ :: _, _, _, h, _ => by cases h
  | .tup _ :: _, _, _, h, _ => by cases h
  | .lst _ :: _, _, _, h, _ => by cases h
  | .scr _ :: _, _, _, h, _ => by cases h
  | .dK _ :: _, _, _, h, _ => by cases h
  | .dT _ :: _, _, _, h, _ => by cases h
  | .ins _ _ :: _, _, _, h, _ => by cases h
theorem maxI_le : ∀ (m : Int) (xs : List Int), m ≤ maxI m xs ∧ ∀ y ∈ xs, y ≤ maxI m xs
  | m, [] => ⟨Int.le_refl _, fun _ h => by cases h⟩
  | m, x :: r => by
    unfold maxI
    obtain ⟨h1, h2⟩ := maxI_le (if m < x then x else m) r
    refine ⟨?_, fun y hy => ?_⟩
    · split at h1 <;> split <;> first | omega | skip
    · rcases List.mem_cons.mp hy with e | e
      · subst e
        split at h1 <;> split <;> first | omega | skip
      · exact h2 y e
theorem maxI_mem : ∀ (m : Int) (xs : List Int), maxI m xs = m ∨ maxI m xs ∈ xs
  | m, [] => .inl rfl
  | m, x :: r => by
    unfold maxI
    rcases maxI_mem (if m < x then x else m) r with h | h
    · rw [h]
      split
      · exact .inr List.mem_cons_self
      · exact .inl rfl
    · exact .inr (List.mem_cons_of_mem _ h)
theorem maxI_is {m x : Int} {r : List Int} (h1 : m ∈ x :: r) (h2 : ∀ y ∈ x :: r, y ≤ m) : m = maxI x r := by
  obtain ⟨a, b⟩ := maxI_le x r
  have h3 : maxI x r ∈ x :: r := by
    rcases maxI_mem x r with h | h
    · rw [h]; exact
        List.mem_cons_self
    · exact List.mem_cons_of_mem _ h
  have h4 := h2 _ h3
  rcases List.mem_cons.mp h1 with h | h
  · omega
  · have := b m h
    omega
theorem cbd_max (hK : G.K = X.K) (hc : X.calm = true) : CBD G X (.builtin "max") maxF :=
  ⟨_, cr_max hc, fun {P F H σ Γ ds vs o Q} env hv e q => by
    unfold maxF ov at e
    split at e
    · rename_i xs
      cases h : intsOf xs with
      | none => rw [h] at e; cases e
      | some is =>
        rw [h] at e
        cases is with
        | nil => cases e
        | cons x r =>
          cases e
          obtain ⟨v, rfl, hx⟩ := hv.one
          obtain ⟨a, ys, rfl, h1, h2⟩ := hx.lst env.fh
          have hy := ints_rep h h2
          subst hy
          exact ⟨a, x :: r, rfl, SqL.of h1, Nat.succ_pos _, fun m m1 m2 => by rw [maxI_is m1 m2]; exact q.val env rfl⟩
    · cases e⟩

/-! ### max(xs, default=k) -/
theorem depth_ints : ∀ ns : List Int, PyData.depthAll (ns.map PyData.int) = 0
  | [] => rfl
  | n :: r => by
    rw [List.map_cons]
    simp only [PyData.depthAll, PyData.depth, depth_ints r]
    rfl
theorem alike_intsD (ns : List Int) : PySem.W.AlikeAll (ns.map PyData.int) := by
  refine ⟨fun x hx y hy => ?_, fun x hx => ?_⟩
  · obtain ⟨i, _, rfl⟩ := List.mem_map.mp hx
    obtain ⟨j, _, rfl⟩ := List.mem_map.mp hy
    rfl
  · obtain ⟨i, _, rfl⟩ := List.mem_map.mp hx
    intro h
    cases h
theorem dpAll_ints {K : PySem.W.Frag} {H : Hp} : ∀ ns : List Int, DpAll K H (ns.map V.int) (ns.map PyData.int)
  | [] => .nil
  | n :: r => .cons (.int n) (dpAll_ints r)
theorem fold_max : ∀ (r : List Int) (m : Int), r.foldl max m = maxI m r
  | [], _ => rfl
  | x :: r, m => by
    unfold maxI
    rw [List.foldl_cons, fold_max r]
    congr 1
    by_cases h : m < x
    · rw [if_pos h]; omega
    · rw [if_neg h]; omega
def rMaxD (K : PySem.W.Frag) : List V → List V → Hp → VK → Prop := fun vs zs H Q => ∃ (a : Addr) (ns : List Int) (d : V), vs = [.ref a] ∧ zs = [d] ∧ (SqL K H a (ns.map V.int) ∨ SqT K H a (ns.map V.int)) ∧
  (ns = [] → Q d H) ∧ ∀ x r, ns = x :: r → Q (.int (maxI x r)) H
theorem crk_max (hc : X.calm = true) (hu : X.A.units + 64 < cLine) : CallRK X (.builtin "max") [Str.ofString "default"] (rMaxD X.K) := by
  intro pn sh τ Hh vs zs us ws Qk Iv r1 r2 hq
  obtain ⟨a, ns, d, rfl, rfl, hs, q0, q1⟩ := hq
  obtain ⟨u, rfl,
      ru⟩ := vals1 r1
  obtain ⟨w, rfl, rw'⟩ := vals1 r2
  cases ru
  have fin0 : ns.map PyData.int = [] → ∀ h' tk, (∀ b o, sh.heap.get? b = some o → h'.get? b = some o) → EP X pn τ Qk w { sh with heap := h', toks := tk } := fun e h' tk hk =>
    ⟨d, Hh, Iv.kept hk, rw', q0 (List.map_eq_nil_iff.mp e)⟩
  have fin1 : ∀ (y : PyData) (ys : List PyData) (v : Value) h' tk bs, ns.map PyData.int = y :: ys → Reads h' v (PySem.W.maxD y ys) bs → (∀ b o, sh.heap.get? b = some o → h'.get? b = some o) → EP X pn τ Qk v { sh with heap := h', toks := tk } := fun y ys v h' tk bs e hr hk => by
    cases ns with
    | nil => cases e
    | cons x r =>
      rw [List.map_cons] at e
      cases e
      rw [PySem.W.maxD_ints, fold_max] at hr
      cases hr with
      | int i t => exact ⟨.int _, Hh, Iv.kept hk, ⟨t, rfl⟩, q1 x r rfl⟩
  have hun : X.A.units + 1 + PyData.depthAll (ns.map PyData.int) < cLine := by rw [depth_ints]; omega
  rcases hs with hs | hs
  · obtain ⟨its, rv, hl, _⟩ := Iv.list hs
    obtain ⟨as, ra⟩ := Dp.readsAll Iv _ _ _ (dpAll_ints ns) rv
    exact PySem.W.max_list_default (Iv.ok.hd hc) hl.isList (by simpa using ra) (alike_intsD ns) hun fin0 fun y ys _ v h' tk bs e _ hr hk => fin1 y ys v h' tk bs e hr hk
  · obtain ⟨its, rv, hl, _⟩ := Iv.tuple hs
    obtain ⟨as, ra⟩ := Dp.readsAll Iv _ _ _ (dpAll_ints ns) rv
    exact PySem.W.max_tuple_default (Iv.ok.hd hc) hl (by simpa using ra) (alike_intsD ns) hun fin0 fun y ys _ v h' tk bs e _ hr hk => fin1 y ys v h' tk bs e hr hk

/-! ### isinstance(x, T), T a built-in class -/
def tyNames : List String := ["NoneType", "bool", "int", "str", "tuple", "list", "dict"]
def tyName : D → Option String
  | .non => some "NoneType"
  | .bl _ => some "bool"
  | .int _ => some "int"
  | .str _ => some "str"
  | .tup _ => some "tuple"
  | .lst _ => some "list"
  | .scr _ => some "list"
  | _ => none
def tyAns (t a : String) : Bool := decide (a = t) || (decide (a = "bool") && decide (t = "int"))
theorem isTy_name {t : String} {d : D} {b : Bool} (h : isTy t d = some b) : (∃ a, tyName d = some a ∧ a ∈ tyNames ∧ tyAns t a = b) := by
  cases d with
  | non => cases h; exact ⟨_, rfl, by decide, by simp [tyAns, eq_comm]⟩
  | bl x => cases h; exact ⟨_, rfl, by decide, by simp [tyAns, eq_comm]⟩
  | int i => cases h; exact ⟨_, rfl, by decide, by simp [tyAns, eq_comm]⟩
  | str s => cases h; exact ⟨_, rfl, by decide, by simp [tyAns, eq_comm]⟩
  | tup xs => cases h; exact ⟨_, rfl, by decide, by simp [tyAns, eq_comm]⟩
  | lst xs => cases h; exact ⟨_, rfl, by decide, by simp [tyAns, eq_comm]⟩
  | scr xs => cases h; exact ⟨_, rfl, by decide, by simp [tyAns, eq_comm]⟩
  | dK k => cases h
  | dT k => cases h
  | ins c fs => cases h
theorem sqL_ty {K : PySem.W.Frag} {H : Hp} {a : Addr} {xs : List V} (h : SqL K H a xs) : TyX K H (.ref a) (.type "list") := by
  rcases h with (h | ⟨o, h⟩) | ⟨o, its, n, h1, h2, _⟩
  · exact .base (.lst h)
  · exact .base (.frz h)
  · exact .kList h1 h2
theorem sqT_ty {K : PySem.W.Frag} {H : Hp} {a : Addr} {xs : List V} (h : SqT K H a xs) : TyX K H (.ref a) (.type "tuple") := by
  rcases h with (h | ⟨o, h⟩) | ⟨o, its, n, h1, h2, _⟩
  · exact .base (.tup h)
  · exact .fTuple h
  · exact .kTuple h1 h2
theorem wrep_ty {F H : Hp} {d : D} {v : V} {a : String} (fh : Same F H) (h : WRep G F H d v) (e : tyName d = some a) : TyX G.K H v (.type a) := by
  cases d with
  | non => cases e; rw [h.non]; exact .base .non
  | bl x => cases e; rw [h.bl]; exact .base (.bl _)
  | int x => cases e; rw [h.int]; exact .base (.int _)
  | str x => cases e; rw [h.str]; exact .base (.str _)
  | tup xs => cases e; obtain ⟨p, ys, rfl, h1, _⟩ := h.tup fh; exact sqT_ty h1
  | lst xs => cases e; obtain ⟨p, ys, rfl, h1, _⟩ := h.lst fh; exact sqL_ty (SqL.of h1)
  | scr xs => cases e; obtain ⟨p, ys, rfl, h1, _⟩ := h.scr fh; exact sqL_ty h1
  | dK k => cases e
  | dT k => cases e
  | ins c fs => cases e
/-- what the names of classes answer: by decide +kernel for each T -/
def TyTab (t : String) : Prop := ∀ a ∈ tyNames, kitB a t = some (tyAns t a)
theorem tab_int : TyTab "int" := by intro a h; revert a; decide +kernel
theorem tab_bool : TyTab "bool" := by intro a h; revert a; decide +kernel
theorem tab_tuple : TyTab "tuple" := by intro a h; revert a; decide +kernel
theorem tab_list : TyTab "list" := by intro a h; revert a; decide +kernel
theorem tab_str : TyTab "str" := by intro a h; revert a; decide +kernel
theorem tab_dict : TyTab "dict" := by intro a h; revert a; decide +kernel
theorem cbd_isTy (hK : G.K = X.K) {t : String} (tab : TyTab t) : ∃ r, CallR X (.builtin "isinstance") r ∧
    ∀ {P F H : Hp} {σ : L2.St} {Γ : Env} {d : D} {v : V} {o : Opd} {Q : VK}, EnvOk G P F H σ Γ → WRep G F H d v → isTyF t d = some o → Go G P F σ Γ o Q → r [v, .ty t] H Q :=
  ⟨_, call_isi, fun {P F H σ Γ d v o Q} env hv e q => by
    unfold isTyF at e
    cases h : isTy t d with
    | none => rw [h] at e; cases e
    | some b =>
      rw [h] at e
      cases e
      obtain ⟨a, h1, h2, h3⟩ := isTy_name h
      exact ⟨v, .ty t, .type a, .type t, b, rfl, .ty t, by rw [← hK]; exact wrep_ty env.fh hv h1, kit_ty (h3 ▸ tab a h2), q.val env rfl⟩⟩

/-! ### methods of lists and tuples by data -/
theorem findD_from {y : D} : ∀ {ds : List D} {n j : Nat}, findD y n ds = some j → n ≤ j ∧ ∃ d, ds[j - n]? = some d ∧ eqD d y = true ∧ ∀ (m : Nat) (e : D), m < j - n → ds[m]? = some e → eqD e y = false
  | [], _, _, h => by cases h
  | x :: r, n, j, h => by
    unfold findD at h
    by_cases hx : eqD x y = true
    · rw [if_pos hx] at h
      cases h
      refine ⟨Nat.le_refl _, x, by rw [Nat.sub_self]; rfl, hx, fun m e hm _ => by omega⟩
    · rw [if_neg hx] at h
      obtain ⟨h1, d, h2, h3, h4⟩ := findD_from h
      have e1 : j - n = (j - (n + 1)) + 1 := by omega
      refine ⟨by omega, d, by rw [e1]; simpa using h2, h3, fun m e hm he => ?_⟩
      cases m with
      | zero =>
        have : x = e := by simpa using he
        subst this
        exact Bool.eq_false_iff.mpr hx
      | succ m => exact h4 m e (by omega) (by simpa using he)
/-- tuple.index of flat items -/
def rIndexT (K : PySem.W.Frag) : V → List V → Hp → VK → Prop := fun x xs H Q => ∃ (a : Addr) (ys : List V) (y : V) (j : Nat) (z : V), x = V.ref a ∧ xs = [y] ∧ SqT K H a ys ∧ flatV y = true ∧ ys.all flatV = true ∧ ys[j]? = some z ∧ eqV z y = true ∧
  (∀ (m : Nat) (z' : V),
      m < j → ys[m]? = some z' → eqV z' y = false) ∧ Q (.int (j : Nat)) H
theorem tyok_tup : TyOk X "tuple" (fun x H => ∃ p xs, x = .ref p ∧ TupAt X.K H p xs) := by
  intro pn τ Hh sh x v Iv rx ht
  obtain ⟨p, xs, rfl, h⟩ := ht
  cases rx
  obtain ⟨its, r, ht, hz⟩ := Iv.tuple h.sq
  refine ⟨ht.typeIs, fun b e => ?_⟩
  cases e
  rcases h with ⟨o, h, hd⟩ | ⟨o, its2, n, h1, h2, h3, h4⟩
  · obtain ⟨e1, _⟩ := Iv.hok p _ h
    exact ⟨o, e1, hd⟩
  · exact ⟨o, Iv.kIn p o h1, h3⟩
theorem mt_tupIndex : MtR X "tuple.index" (rIndexT X.K) := by
  intro pn sh τ Hh x xs vx us Qk Iv rx rxs hq
  obtain ⟨a, ys, y, j, z, rfl, rfl, hs, fy, fys, hz, hzj, hno, q⟩ := hq
  cases rx
  obtain ⟨uy, rfl, ry⟩ := vals1 rxs
  obtain ⟨its, rv, ht, hlen⟩ := Iv.tuple hs
  obtain ⟨⟨cls, dd, data, sl⟩,
      ho, hc, n, hd⟩ := id ht
  simp only at hc hd
  subst hc hd
  have hvl := rv.length
  obtain ⟨u, hu,
      ru⟩ := rv.get hz
  obtain ⟨hjl, hje⟩ :=
      List.getElem?_eq_some_iff.mp hu
  have hj : j < its.toArray.size := by rw [List.size_toArray]; exact hjl
  refine call_meets PySem.F.slot_tuple_index ⟨_, ho, rfl⟩ PySem.F.entry_tuple_index (PySem.F.args_tuple_index_2 _ _)
    (PySem.SeqAt.tuple_index2_found a its.toArray n dd sl uy (fun k => match ys[k]? with | some w => eqV w y | none => false) j hj (Nat.zero_le _) hj ?_ ?_) ⟨ho, fun k hk => ?_, ⟨.int j, Hh, Iv.tok _, ⟨_, rfl⟩, q⟩⟩
  · simp only [hz]
    exact hzj
  · intro m hm _ hmj
    cases e : ys[m]? with
    | none => rfl
    | some w => exact hno m w hmj e
  · have hk' : k < ys.length := by rw [hvl, ← List.size_toArray]; exact hk
    have e1 : ys[k]? = some ys[k] := List.getElem?_eq_getElem hk'
    obtain ⟨u2, hu2, ru2⟩ := rv.get e1
    obtain ⟨_, hme⟩ :=
        List.getElem?_eq_some_iff.mp hu2
    have e2 : its.toArray[k] = u2 := by simpa using hme
    rw [e2, e1]
    exact eqAt_V ru2 ry (flat_at fys e1) fy
theorem find_rep {F : Hp} {ds : List D} {vs : List V} {y : D} {vy : V} {j : Nat} (fy : flat y = true) (fs : ds.all flat = true) (r : Reps G F ds vs) (ry : Rep G F y vy) (h : findD y 0 ds = some j) :
    flatV vy = true ∧ vs.all flatV = true ∧ ∃ z, vs[j]? = some z ∧ eqV z vy = true ∧ ∀ (m : Nat) (z' : V), m < j → vs[m]? = some z' → eqV z' vy = false := by
  obtain ⟨_, d, h1, h2, h3⟩ := findD_from h
  rw [Nat.sub_zero] at h1 h3
  obtain ⟨z, hz, rz⟩ := r.get h1
  refine ⟨flat_rep fy ry, flats_rep fs r, z, hz, ?_, fun m z' hm hz' => ?_⟩
  · rw [eqV_rep (List.all_eq_true.mp fs d (List.mem_of_getElem? h1)) fy rz ry]
    exact h2
  · obtain ⟨e, he, re⟩ := r.get' hz'
    rw [eqV_rep (List.all_eq_true.mp fs e (List.mem_of_getElem? he)) fy re ry]
    exact h3 m e hm he
end
end DP

/-! DpRules: expressions and tests. -/
namespace DP
open PySem PySem.Spec
    PyProof.Rows L2

structure Ok (G : Gx) (X : Cx) : Prop where
  K : G.K = X.K
  mg : G.mg = X.mg

section
variable {G : Gx} {W : WX} {P F F1 H : Hp} {σ : L2.St} {Γ : Env} {Q : VK}
theorem Go.ext {o : Opd} (e : Ext P F F1) (h : Go G P F σ Γ o Q) : Go G P F1 σ Γ o Q := fun v F' H' e' env ho => h v F' H' (e.trans e') env ho
theorem GoX.ext {c : Str} {fs : List D} (e : Ext P F F1) (h : GoX G W P F σ Γ c fs) : GoX G W P F1 σ Γ c fs := fun F' H' cls d e' env ho => h F' H' cls d (e.trans e') env ho
/-- what follows an expression's end -/
def EPost (G : Gx) (W : WX) (P F : Hp) (σ : L2.St) (Q : VK) : R Opd → Prop
  | .ok o Γ' => Go G P F σ Γ' o Q
  | .exc c fs Γ' => GoX G W P F σ Γ' c fs
  | .stuck => False
theorem rd_eq {e : E} : rd G W e σ H Q ↔ ∃ P F Γ, EnvOk G P F H σ Γ ∧ EPost G W P F σ Q (e Γ) := by
  unfold rd EPost
  exact Iff.rfl
theorem EPost.ext {r : R Opd} (e : Ext P F F1) (h : EPost G W P F σ Q r) : EPost G W P F1 σ Q r := by
  cases r with
  | ok o Γ' => exact Go.ext e h
  | exc c fs Γ' => exact GoX.ext e h
  | stuck => exact h
/-- a part e of a whole, k what is made of its end -/
theorem rd_bind {e : E} {k : Opd → Env → R Opd} {R0 : VK} (env : EnvOk G P F H σ Γ) (h : EPost G W P F σ Q ((e Γ).bind k))
    (hk : ∀ o Γ1 v F' H', Ext P F F' → EnvOk G P F' H' σ Γ1 → OpdOk G P F' H' σ Γ1 o v → EPost G W P F' σ Q (k o Γ1) → R0 v H') : rd G W e σ H R0 := by
  refine ⟨P, F, Γ, env, ?_⟩
  cases he : e Γ with
  | ok o Γ1 =>
    rw [he] at h
    exact fun v F' H' e' env' ho => hk o Γ1 v F' H' e' env' ho (EPost.ext e' h)
  | exc c fs Γ1 => rw [he] at h; exact h
  | stuck => rw [he] at h; exact h.elim
def TPost (G : Gx) (W : WX) (P F : Hp) (σ : L2.St) (Q : Bool → Hp → Prop) : R Bool → Prop
  | .ok b Γ' => ∀ F' H', Ext P F F' → EnvOk G P F' H' σ Γ' → Q b H'
  | .exc c fs Γ' => GoX G W P F σ Γ' c fs
  | .stuck => False
theorem TPost.ext {r : R Bool} {Q : Bool → Hp → Prop} (e : Ext P F F1) (h : TPost G W P F σ Q r) : TPost G W P F1 σ Q r := by
  cases r with
  | ok b Γ' => exact fun F' H' e' env => h F' H' (e.trans e') env
  | exc c fs Γ' => exact GoX.ext e h
  | stuck => exact h
theorem rdT_bind {α : Type} {e : T} {k : Bool → Env → R α} {Post : Hp → R α → Prop} {R0 : Bool → Hp → Prop} (env : EnvOk G P F H σ Γ) (h : Post F ((e Γ).bind k)) (hs : Post F (.stuck : R α) → False)
    (hx : ∀ c fs Γ1, Post F (.exc c fs Γ1) → GoX G W P F σ Γ1 c fs) (hm : ∀ F' r, Ext P F F' → Post F r → Post F' r)
    (hk : ∀ b Γ1 F' H', Ext P F F' → EnvOk G P F' H' σ Γ1 → Post F' (k b Γ1) → R0 b H') : rdT G W e σ H R0 := by
  refine ⟨P, F, Γ, env, ?_⟩
  cases he : e Γ with
  | ok b Γ1 =>
    rw [he] at h
    exact fun F' H' e' env' => hk b Γ1 F' H' e' env' (hm F' _ e' h)
  | exc c fs Γ1 => rw [he] at h; exact hx c fs Γ1 h
  | stuck => rw [he] at h; exact hs h
/-- an expression within a test or a statement -/
theorem rd_bindG {α : Type} {e : E} {k : Opd → Env → R α} {Post : Hp → R α → Prop} {R0 : VK} (env : EnvOk G P F H σ Γ) (h : Post F ((e Γ).bind k)) (hs : Post F (.stuck : R α) → False)
    (hx : ∀ c fs Γ1, Post F (.exc c fs Γ1) → GoX G W P F σ Γ1 c fs) (hm : ∀ F' r, Ext P F F' → Post F r → Post F' r)
    (hk : ∀ o Γ1 v F' H', Ext P F F' → EnvOk G P F' H' σ Γ1 → OpdOk G P F' H' σ Γ1 o v → Post F' (k o Γ1) → R0 v H') : rd G W e σ H R0 := by
  refine ⟨P, F, Γ, env, ?_⟩
  cases he : e Γ with
  | ok o Γ1 =>
    rw [he] at h
    exact fun v F' H' e' env' ho => hk o Γ1 v F' H' e' env' ho (hm F' _ e' h)
  | exc c fs Γ1 => rw [he] at h; exact hx c fs Γ1 h
  | stuck => rw [he] at h; exact hs h
end

section
variable {G : Gx} {W : WX} {X : Cx} {a b c e o : Expr} {es : List Expr} {pos p apos : Pos} {da db dc : E}

theorem de_var {x : Str} (i : Nat) (hN : X.N[i]? = some x := by rfl) (hv : Vis X.env.scope x := by first | exact Or.inl rfl | exact Or.inr (Or.inl rfl) | exact Or.inr (Or.inr rfl)) (hd : (x == ("__debug__" : Str)) = false := by decide)
    (hcd : (x == ("__classdict__" : Str)) = false := by decide) : PE X (.Name x pos) (rd G W (eV i)) := by
  refine PE_imp (pe_var hN hv hd hcd) fun σ H Q hq => ?_
  obtain ⟨P, F, Γ, env, h⟩ := hq
  unfold eV at h
  cases hs : Γ[i]? with
  | none => rw [hs] at h; exact h.elim
  | some s =>
    rw [hs] at h
    have ok := env.slot i s hs
    cases s with
    | sh d =>
      obtain ⟨x, h1, h2⟩ := ok
      exact ⟨x, h1, Go.val env h h2⟩
    | ow d =>
      obtain ⟨ad, h1, _⟩ := ok
      exact ⟨_, h1, h _ F H (Ext.refl _ _) env ⟨⟨d, by rw [hs]; rfl⟩, h1⟩⟩
    | no => exact h.elim
    | ex c fs => exact h.elim
theorem de_c {d : D} {v : V} (h : PE X e (tC v)) (hr : ∀ F, Rep G F d v) : PE X e (rd G W (eC d)) := by
  refine PE_imp h fun σ H Q hq => ?_
  obtain ⟨P, F, Γ, env, h⟩ := hq
  exact Go.val env h (hr F)
theorem de_int {i : Int} {j : _} : PE X (.Constant (.int i) j pos) (rd G W (eC (.int i))) := de_c pe_int fun _ => rfl
theorem de_bl {i : Bool} {j : _} : PE X (.Constant (.bool i) j pos) (rd G W (eC (.bl i))) := de_c pe_bl fun _ => rfl
theorem de_non {j : _} : PE X (.Constant .none j pos) (rd G W (eC .non)) := de_c pe_non fun _ => rfl
theorem de_str {i : Str} {j : _} : PE X (.Constant (.str i) j pos) (rd G W (eC (.str i))) := de_c pe_str fun _ => rfl

/-! ### two places -/
theorem bin_tr {r : R2} {f : D → D → Option Opd} (hr : ∀ {P F H : Hp} {σ : L2.St} {Γ : Env} {dx dy : D} {x y : V} {o : Opd} {Q : VK}, EnvOk G P F H σ Γ → WRep G F H dx x → WRep G F H dy y → f dx dy = some o → Go G P F σ Γ o Q → r x y H Q)
    (σ : L2.St) (H : Hp) (Q : VK) (hq : rd G W (eBin f da db) σ H Q) : tOp r (rd G W da) (rd G W db) σ H Q := by
  obtain ⟨P, F, Γ, env, h⟩ := hq
  refine rd_bind env h fun o1 Γ1 v1 F1 H1 e1 env1 ho1 h1 => ?_
  obtain ⟨F2, e2, env2, hw, _⟩ := OpdOk.wait env1 ho1
  refine rd_bind env2 (EPost.ext e2 h1) fun o2 Γ2 v2 F3 H3 e3 env3 ho3 h3 => ?_
  cases hx : o1.get Γ2 with
  | none => simp only [hx] at h3; exact h3.elim
  | some dx =>
    cases hy : o2.get Γ2 with
    | none => simp only [hx, hy] at h3; exact h3.elim
    | some dy =>
      simp only [hx, hy] at h3
      cases hf : f dx dy with
      | none => rw [hf] at h3; exact h3.elim
      | some z =>
        rw [hf] at h3
        exact hr env3 (hw _ _ _ _ dx e3.sub env3 hx) (OpdOk.read env3 ho3 hy) hf h3
theorem de_bin {op : Operator} {f : D → D → Option Opd} (ho : OpD G X (binaryOp op) f) (ha : PE X a (rd G W da)) (hb : PE X b (rd G W db)) : PE X (.BinOp a op b pos) (rd G W (eBin f da db)) := by
  obtain ⟨r, h1, h2⟩ := ho
  exact PE_imp (pe_op h1 ha hb) (bin_tr h2)
theorem de_cmp {op : CmpOp} {f : D → D → Option Opd} (ho : OpD G X (compareOp op) f) (ha : PE X a (rd G W da)) (hb : PE X b (rd G W db)) (hm : behindInMarks op b = false := by first | exact nomark _ | rfl) : PE X (.Compare a [op] [b] pos) (rd G W (eBin f da db)) := by
  obtain ⟨r, h1, h2⟩ := ho
  exact PE_imp (pe_cmpR h1 ha hb hm) (bin_tr h2)
theorem de_ix {f : D → D → Option Opd} (ho : IxD G X f) (ha : PE X a (rd G W da)) (hb : PE X b (rd G W db)) (hs : PlainIx b := by exact fun _ _ => rfl) : PE X (.Subscript a b pos) (rd G W (eBin f da db)) := by
  obtain ⟨r, h1, h2⟩ := ho
  exact PE_imp (pe_ix h1 ha hb hs) (bin_tr h2)
theorem un_tr {f : D → Option Opd} {r : V → Hp → VK → Prop} (hr : ∀ {P F H : Hp} {σ : L2.St} {Γ : Env} {dx : D} {x : V} {o : Opd} {Q : VK}, EnvOk G P F H σ Γ → WRep G F H dx x → f dx = some o → Go G P F σ Γ o Q → r x H Q)
    (σ : L2.St) (H : Hp) (Q : VK) (hq : rd G W (eUn f da) σ H Q) : tUn r (rd G W da) σ H Q := by
  obtain ⟨P, F, Γ, env, h⟩ := hq
  refine rd_bind env h fun o1 Γ1 v1 F1 H1 e1 env1 ho1 h1 => ?_
  cases hx : o1.get Γ1 with
  | none => simp only [hx] at h1; exact h1.elim
  | some dx =>
    simp only [hx] at h1
    cases hf : f dx with
    | none => rw [hf] at h1; exact h1.elim
    | some z =>
      rw [hf] at h1
      exact hr env1 (OpdOk.read env1 ho1 hx) hf h1
theorem wrep_isNon {F H : Hp} {d : D} {v : V} (h : WRep G F H d v) : decide (v = .non) = isNon d := by
  cases d with
  | non => rw [h.non]; rfl
  | bl x => rw [h.bl]; exact decide_eq_false (fun z => nomatch z)
  | int x => rw [h.int]; exact decide_eq_false (fun z => nomatch z)
  | str x => rw [h.str]; exact decide_eq_false (fun z => nomatch z)
  | tup xs =>
    rcases h with ⟨p, ys, rfl, _⟩ | ⟨p, rfl, _⟩ <;> exact decide_eq_false (fun z => nomatch z)
  | lst xs =>
    rcases h with ⟨p, ys, rfl, _⟩ | ⟨p, rfl, _⟩ <;> exact decide_eq_false (fun z => nomatch z)
  | scr xs =>
    rcases h with ⟨p, ys, rfl, _⟩ | ⟨p, rfl, _⟩ <;> exact decide_eq_false (fun z => nomatch z)
  | dK k => obtain ⟨p, rfl⟩ := h.isRef (.inl ⟨_, rfl⟩); exact decide_eq_false (fun z => nomatch z)
  | dT k => obtain ⟨p, rfl⟩ := h.isRef (.inr (.inl ⟨_, rfl⟩)); exact decide_eq_false (fun z => nomatch z)
  | ins c fs => obtain ⟨p, rfl⟩ := h.isRef (.inr (.inr ⟨_, _, rfl⟩)); exact decide_eq_false (fun z => nomatch z)
theorem de_isN {j : _} {p' : Pos} (ha : PE X a (rd G W da)) : PE X (.Compare a [.Is] [.Constant .none j p'] pos) (rd G W (eUn isNF da)) := by
  refine PE_imp (pe_cmp (pc_isN ha) rfl) (un_tr (r := fun x H Q => Q (.bl (decide (x = .non))) H) fun {P F H σ Γ dx x o Q} env hw hf q => ?_)
  cases hf
  rw [wrep_isNon hw]
  exact q.val env rfl
theorem de_notN {j : _} {p' : Pos} (ha : PE X a (rd G W da)) : PE X (.Compare a [.IsNot] [.Constant .none j p'] pos) (rd G W (eUn isNotNF da)) := by
  refine PE_imp (pe_cmp (pc_notN ha) rfl) (un_tr (r := fun x H Q => Q (.bl (!decide (x = .non))) H) fun {P F H σ Γ dx x o Q} env hw hf q => ?_)
  cases hf
  rw [wrep_isNon hw]
  exact q.val env rfl
theorem de_neg (ha : PE X a (rd G W da)) : PE X (.UnaryOp .USub a pos) (rd G W (eUn negF da)) := by
  refine PE_imp (pe_un un_neg ha) (un_tr fun {P F H σ Γ dx x o Q} env hw hf q => ?_)
  unfold negF ov at hf
  split at hf
  · cases hf
    exact ⟨_, hw.int, q.val env rfl⟩
  · cases hf

/-! ### arguments -/
theorem da_nil : PA X [] (rdA G W aNil) := by
  refine PA_imp pa_nil fun σ H Q hq => ?_
  obtain ⟨P, F, Γ, env, h⟩ := hq
  exact h [] F H (Ext.refl _ _) env rfl
def APost (G : Gx) (W : WX) (P F : Hp) (σ : L2.St) (Q : List V → Hp → Prop) : R (List Opd) → Prop
  | .ok os Γ' => ∀ vs F' H', Ext P F F' → EnvOk G P F' H' σ Γ' → WOpds G F' σ os vs → Q vs H'
  | .exc c fs Γ' => GoX G W P F σ Γ' c fs
  | .stuck => False
theorem APost.ext {P F F1 : Hp} {σ : L2.St} {Q : List V → Hp → Prop} {r : R (List Opd)} (e : Ext P F F1) (h : APost G W P F σ Q r) : APost G W P F1 σ Q r := by
  cases r with
  | ok b Γ' => exact fun vs F' H' e' env => h vs F' H' (e.trans e') env
  | exc c fs Γ' => exact GoX.ext e h
  | stuck => exact h
theorem wopd_of {P F H : Hp} {σ : L2.St} {Γ : Env} {o : Opd} {v : V} (env : EnvOk G P F H σ Γ) (ho : OpdOk G P F H σ Γ o v) : ∃ F1, Ext P F F1 ∧ EnvOk G P F1 H σ Γ ∧
    ∀ F2, Same F1 F2 → ((∃ d, o.str = some d ∧ Rep G F2 d v) ∨ ∃ i, o = .own i ∧ σ[i]? = some (some v)) := by
  cases o with
  | val d => exact ⟨F, Ext.refl _ _, env, fun F2 e => .inl ⟨d, rfl, Rep.mono e ho⟩⟩
  | fresh d =>
    obtain ⟨F1, e1, h1, r1⟩ := OpdOk.strong env ho rfl
    exact ⟨F1, e1, h1, fun F2 e => .inl ⟨d, rfl, r1.mono e⟩⟩
  | own i => exact ⟨F, Ext.refl _ _, env, fun F2 e => .inr ⟨i, rfl, ho.2⟩⟩
theorem da_cons {ta : As} (ha : PE X e (rd G W da)) (hr : PA X es (rdA G W ta)) (hs : starEach (e :: es) X.env = (false, eval e X.env) :: starEach es X.env := by rfl) : PA X (e :: es) (rdA G W (aCons da ta)) := by
  refine PA_imp (pa_cons ha hr hs) fun σ H Q hq => ?_
  obtain ⟨P, F, Γ, env, h⟩ := hq
  have h : APost G W P F σ Q ((da Γ).bind fun x Γ1 => (ta Γ1).bind fun xs Γ2 => .ok (x :: xs) Γ2) := h
  refine rd_bindG (Post := fun F r => APost G W P F σ Q r) env h (fun z => z) (fun _ _ _ z => z) (fun _ _ e z => z.ext e) fun o1 Γ1 v1 F1 H1 e1 env1 ho1 h1 => ?_
  obtain ⟨F2, e2, env2, hw⟩ := wopd_of env1 ho1
  refine ⟨P, F2, Γ1, env2, ?_⟩
  have h2 := APost.ext e2 h1
  cases ht : ta Γ1 with
  | ok os Γ2 =>
    rw [ht] at h2
    exact fun vs F' H' e' env' ho' => h2 (v1 :: vs) F' H' e' env' ⟨v1, vs, rfl, hw F' e'.sub, ho'⟩
  | exc c fs Γ2 => rw [ht] at h2; exact h2
  | stuck => rw [ht] at h2; exact h2.elim
theorem WOpds.reads {P F H : Hp} {σ : L2.St} {Γ : Env} (env : EnvOk G P F H σ Γ) : ∀ {os : List Opd} {vs : List V} {ds : List D}, WOpds G F σ os vs → gets Γ os = some ds → WReps G F H ds vs
  | [], _, _, h, g => by
    cases g
    exact h
  | o :: os, _, _, h, g => by
    obtain ⟨v, r, rfl, h1, h2⟩ := h
    unfold gets at g
    cases ho : o.get Γ with
    | none => rw [ho] at g; cases g
    | some d =>
      cases hg : gets Γ os with
      | none => rw [ho, hg] at g; cases g
      | some ds =>
        rw [ho, hg] at g
        cases g
        refine ⟨v, r, rfl, ?_, WOpds.reads env h2 hg⟩
        rcases h1 with ⟨d', e1, e2⟩ | ⟨i, rfl, e1⟩
        · have : o.get Γ = some d' := by
            cases o with
            | val z => exact e1
            | fresh z => exact e1
            | own i => cases e1
          rw [ho] at this
          cases this
          exact .inl e2
        · exact OpdOk.read (o := .own i) env ⟨⟨d, ho⟩, e1⟩ ho
theorem WOpds.strong {F : Hp} {σ : L2.St} : ∀ {os : List Opd} {vs : List V} {ds : List D}, WOpds G F σ os vs → strsD os = some ds → Reps G F ds vs
  | [], _, _, h, g => by
    cases g
    exact h
  | o :: os, _, _, h, g => by
    obtain ⟨v, r, rfl, h1, h2⟩ := h
    unfold strsD at g
    cases ho : o.str with
    | none => rw [ho] at g; cases g
    | some d =>
      cases hg : strsD os with
      | none => rw [ho, hg] at g; cases g
      | some ds =>
        rw [ho, hg] at g
        cases g
        refine ⟨v, r, rfl, ?_, WOpds.strong h2 hg⟩
        rcases h1 with ⟨d', e1, e2⟩ | ⟨i, rfl, e1⟩
        · rw [ho] at e1
          cases e1
          exact e2
        · cases ho
/-- what follows arguments -/
theorem rdA_bind {t : As} {k : List Opd → Env → R Opd} {R0 : List V → Hp → Prop} {P F H : Hp} {σ : L2.St} {Γ : Env} {Q : VK} (env : EnvOk G P F H σ Γ) (h : EPost G W P F σ Q ((t Γ).bind k))
    (hk : ∀ os Γ1 vs F' H', Ext P F F' → EnvOk G P F' H' σ Γ1 → WOpds G F' σ os vs → EPost G W P F' σ Q (k os Γ1) → R0 vs H') : rdA G W t σ H R0 := by
  refine ⟨P, F, Γ, env, ?_⟩
  cases he : t Γ with
  | ok os Γ1 =>
    rw [he] at h
    exact fun vs F' H' e' env' ho => hk os Γ1 vs F' H' e' env' ho (EPost.ext e' h)
  | exc c fs Γ1 => rw [he] at h; exact h
  | stuck => rw [he] at h; exact h.elim

/-! ### built-ins called, displays -/
theorem cb_tr {r : List V → Hp → VK → Prop} {f : List D → Option Opd} {t : As} (hr : ∀ {P F H : Hp} {σ : L2.St} {Γ : Env} {ds : List D} {vs : List V} {o : Opd} {Q : VK}, EnvOk G P F H σ Γ → WReps G F H ds vs → f ds = some o → Go G P F σ Γ o Q → r vs H Q)
    (σ : L2.St) (H : Hp) (Q : VK) (hq : rd G W (eCB f t) σ H Q) : tCB r (rdA G W t) σ H Q := by
  obtain ⟨P, F, Γ, env, h⟩ := hq
  refine rdA_bind env h fun os Γ1 vs F1 H1 e1 env1 ho h1 => ?_
  cases hg : gets Γ1 os with
  | none => simp only [hg] at h1; exact h1.elim
  | some ds =>
    simp only [hg] at h1
    cases hf : f ds with
    | none => rw [hf] at h1; exact h1.elim
    | some z =>
      rw [hf] at h1
      exact hr env1 (ho.reads env1 hg) hf h1
theorem de_cb {x : Str} {id : String} {f : List D → Option Opd} {t : As} (hc : CBD G X (.builtin id) f) (hg : Gl X x) (hm : X.mg x = none) (hv : bootBuiltins x = some (.builtin id)) (ha : PA X (e :: es) (rdA G W t)) (hn : x ≠ "__name__" := by decide) (hdb : (x == ("__debug__" : Str)) = false := by decide)
    (he : starEach (e :: es) X.env = (false, eval e X.env) :: starEach es X.env := by rfl) (hpl : (backTo pos (starEach es X.env)).any (·.1) = false := by rfl) : PE X (.Call (.Name x p) (e :: es) [] pos) (rd G W (eCB f t)) := by
  obtain ⟨r, h1, h2⟩ := hc
  exact PE_imp (pe_callB h1 hg hm hv ha hn hdb he hpl) (cb_tr h2)
theorem de_cty {x : Str} {id : String} {f : List D → Option Opd} {t : As} (hc : CBD G X (.type id) f) (hg : Gl X x) (hm : X.mg x = none) (hv : bootBuiltins x = some (.type id)) (ha : PA X (e :: es) (rdA G W t)) (hn : x ≠ "__name__" := by decide) (hdb : (x == ("__debug__" : Str)) = false := by decide)
    (he : starEach (e :: es) X.env = (false, eval e X.env) :: starEach es X.env := by rfl) (hpl : (backTo pos (starEach es X.env)).any (·.1) = false := by rfl) : PE X (.Call (.Name x p) (e :: es) [] pos) (rd G W (eCB f t)) := by
  obtain ⟨r, h1, h2⟩ := hc
  exact PE_imp (pe_callTy h1 hg hm hv ha hn hdb he hpl) (cb_tr h2)
theorem de_tup {x1 : _} {t : As} (ha : PA X es (rdA G W t)) : PE X (.Tuple es x1 pos) (rd G W (eTup t)) := by
  refine PE_imp (pe_tupZ ha) fun σ H Q hq => ?_
  obtain ⟨P, F, Γ, env, h⟩ := hq
  refine rdA_bind env h fun os Γ1 vs F1 H1 e1 env1 ho h1 => ?_
  cases hg : strsD os with
  | none => simp only [hg] at h1; exact h1.elim
  | some ds =>
    simp only [hg] at h1
    split at h1
    · rename_i hl
      have r := ho.strong hg
      exact ⟨by rw [r.length]; exact line_le hl, fun p ob hob hp => Go.newT env1 h1 hp hob r⟩
    · exact h1.elim
theorem de_lst {t : As} (ha : PA X es (rdA G W t)) : PE X (.List es pos) (rd G W (eLst t)) := by
  refine PE_imp (pe_lst ha) fun σ H Q hq => ?_
  obtain ⟨P, F, Γ, env, h⟩ := hq
  refine rdA_bind env h fun os Γ1 vs F1 H1 e1 env1 ho h1 => ?_
  cases hg : strsD os with
  | none => simp only [hg] at h1; exact h1.elim
  | some ds =>
    simp only [hg] at h1
    split at h1
    · rename_i hl
      have r := ho.strong hg
      exact ⟨by rw [r.length]; exact line_le hl, fun p hp => Go.newL env1 h1 hp r⟩
    · exact h1.elim
end
end DP

/-! DpRules2: isinstance, slices, calls of defs, methods, truth values, tests. -/
namespace DP
open PySem PySem.Spec
    PyProof.Rows L2

section
variable {G : Gx} {W : WX} {X : Cx} {a b c e o : Expr} {es : List Expr} {pos p apos cpos p2 : Pos} {da db dc : E}

/-! ### isinstance of a built-in class; max with a default -/
theorem de_isTy {T : Str} {t : String} {pT : Pos} (ok : Ok G X) (tab : TyTab t) (hg : Gl X "isinstance") (hm : X.mg "isinstance" = none) (hgT : Gl X T) (hmT : X.mg T = none) (hvT : bootBuiltins T = some (.type t)) (ha : PE X a (rd G W da))
    (hnT : T ≠ "__name__" := by decide) (hdT : (T == ("__debug__" : Str)) = false := by decide)
    (he : starEach (a :: [.Name T pT]) X.env = (false, eval a X.env) :: starEach [.Name T pT] X.env := by rfl) (he2 : starEach [.Name T pT] X.env = (false, eval (.Name T pT) X.env) :: starEach [] X.env := by rfl) (hpl : (backTo pos (starEach [.Name T pT] X.env)).any (·.1) = false := by rfl) :
    PE X (.Call (.Name "isinstance" p) [a, .Name T pT] [] pos) (rd G W (eUn (isTyF t) da)) := by
  obtain ⟨r, h1, h2⟩ := cbd_isTy (G := G) ok.K tab
  have hT : PE X (.Name T pT) (tC (.ty t)) := pe_bltn hgT hmT hvT rfl hnT hdT
  exact PE_imp (pe_callB h1 hg hm (by decide +kernel) (pa_cons ha (pa_cons hT pa_nil he2) he) (by decide) (by decide) he hpl) (un_tr (r := fun x H Q => r [x, .ty t] H Q) h2)
theorem kw_tr {f : D → D → Option Opd} {r : List V → List V → Hp → VK → Prop} (hr : ∀ {P F H : Hp} {σ : L2.St} {Γ : Env} {dx dy : D} {x y : V} {o : Opd} {Q : VK}, EnvOk G P F H σ Γ → WRep G F H dx x → WRep G F H dy y → f dx dy = some o → Go G P F σ Γ o Q → r [x] [y] H Q)
    (σ : L2.St) (H : Hp) (Q : VK) (hq : rd G W (eBin f da db) σ H Q) : tCKw r (tCons (rd G W da) tNil) (tCons (rd G W db) tNil) σ H Q :=
  bin_tr (r := fun x y H Q => r [x] [y] H Q) hr σ H Q hq
theorem de_maxD {nm : Str} {pk : Pos} (ok : Ok G X) (hc : X.calm = true) (hu : X.A.units + 64 < cLine) (hg : Gl X "max") (hm : X.mg "max" = none) (ha : PE X a (rd G W da)) (hb : PE X b (rd G W db)) (hnm : nm = "default" := by rfl)
    (hs : starEach (a :: []) X.env = (false, eval a X.env) :: starEach [] X.env := by rfl)
    (he : backTo pos (starEach (a :: []) X.env) = (false, eval a X.env) :: backTo pos (starEach [] X.env) := by rfl) (hpl : (backTo pos (starEach (a :: []) X.env)).any (·.1) = false := by rfl)
    (hall : (backToKw pos (keywordEach [⟨some nm, b, pk⟩] X.env)).all (·.1.isSome) = true := by rfl) (hnone : (backToKw pos (keywordEach [⟨some nm, b, pk⟩] X.env)).any (·.1.isNone) = false := by rfl) (hks : (backToKw pos (keywordEach [⟨some nm, b, pk⟩] X.env)).filterMap (·.1) = [nm] := by rfl)
    (hpk : PK X [⟨some nm, b, pk⟩] (tCons (rd G W db) tNil)) : PE X (.Call (.Name "max" p) [a] [⟨some nm, b, pk⟩] pos) (rd G W (eBin maxDF da db)) := by
  subst hnm
  refine PE_imp (pe_callBK (crk_max hc hu) hg hm (by decide +kernel) (pa_cons ha pa_nil hs) hpk (by decide) (by decide) he hpl hall hnone hks) (kw_tr fun {P F H σ Γ dx dy x y o Q} env hx hy e q => ?_)
  have fin : ∀ (ad : Addr) (is : List Int) (r : Option Opd), (SqL X.K H ad (is.map V.int) ∨ SqT X.K H ad (is.map V.int)) → x = .ref ad →
      (match some is with | some (x :: r) => ov (.int (maxI x r)) | some [] => if flat dy then ov dy else none | _ => none) = some o → rMaxD X.K [x] [y] H Q := fun ad is r hs hxr e => by
    subst hxr
    cases is with
    | nil =>
      have e : (if flat dy then ov dy else none) = some o := e
      split at e
      · rename_i hf
        cases e
        exact ⟨ad, [], y, rfl, rfl, hs, fun _ => q.val env (hy.flat hf), fun _ _ z => by cases z⟩
      · cases e
    | cons i r =>
      cases e
      exact ⟨ad, i :: r, y, rfl, rfl, hs, fun z => (by cases z), fun _ _ z => by cases z; exact q.val env rfl⟩
  cases dx with
  | lst xs =>
    obtain ⟨ad, ys, hxr, h1, h2⟩ := hx.lst env.fh
    unfold maxDF at e
    simp only at e
    cases h : intsOf xs with
    | none => rw [h] at e; cases e
    | some is =>
      rw [h] at e
      have hy' := ints_rep h h2
      subst hy'
      exact fin ad is none (.inl (SqL.of h1)) hxr e
  | tup xs =>
    obtain ⟨ad, ys, hxr, h1, _, h2⟩ := hx.tup env.fh
    unfold maxDF at e
    simp only at e
    cases h : intsOf xs with
    | none => rw [h] at e; cases e
    | some is =>
      rw [h] at e
      have hy' := ints_rep h h2
      subst hy'
      exact fin ad is none (.inr (by rw [← ok.K]; exact h1)) hxr e
  | _ => cases e

/-! ### slices -/
theorem do_no : PO X none (fun σ H Q => ∃ P F Γ, EnvOk G P F H σ Γ ∧ ∀ F' H', Ext P F F' → EnvOk G P F' H' σ Γ → Q none H') := by
  refine ⟨fun pins s σ H Q I h =>
      ?_⟩
  obtain ⟨P, F, Γ, env, h⟩ := h
  exact (po_none (X := X)).run pins s σ H Q I (h F H (Ext.refl _ _) env)
/-- a part of a slice -/
def rdP (G : Gx) (W : WX) (t : Env → R (Option Int)) : TO := fun σ H Q => ∃ P F Γ, EnvOk G P F H σ Γ ∧ match t Γ with
  | .ok i Γ' => ∀ F' H', Ext P F F' → EnvOk G P F' H' σ Γ' → Q i H'
  | .exc c fs Γ' => GoX G W P F σ Γ' c fs
  | .stuck => False
theorem PO_imp {eo : Option Expr} {t t' : TO} (h : PO X eo t) (f : ∀ σ H Q, t' σ H Q → t σ H Q) : PO X eo t' := ⟨fun pins s σ H Q I hq => h.run pins s σ H Q I (f σ H Q hq)⟩
theorem dp_no : PO X none (rdP G W pNo) := by
  refine PO_imp po_none fun σ H Q hq => ?_
  obtain ⟨P, F, Γ, env, h⟩ := hq
  exact h F H (Ext.refl _ _) env
theorem dp_e (ha : PE X a (rd G W da)) : PO X (some a) (rdP G W (pE da)) := by
  refine PO_imp (po_some ha) fun σ H Q hq => ?_
  obtain ⟨P, F, Γ, env, h⟩ := hq
  refine ⟨P, F, Γ, env, ?_⟩
  unfold pE at h
  cases he : da Γ with
  | ok o Γ1 =>
    rw [he] at h
    intro v F' H' e' env' ho
    cases o with
    | val d =>
      cases d with
      | int i => exact ⟨i, ho, h F' H' e' env'⟩
      | _ => exact h.elim
    | fresh d => exact h.elim
    | own j => exact h.elim
  | exc c fs Γ1 => rw [he] at h; exact h
  | stuck => rw [he] at h; exact h.elim
theorem de_sl {f : D → Option Int → Option Int → Option Opd} {lo hi : Option Expr} {dl dh : Env → R (Option Int)} (hs : SlD G X f) (ha : PE X a (rd G W da)) (hl : PO X lo (rdP G W dl)) (hh : PO X hi (rdP G W dh)) : PE X (.Subscript a (.Slice lo hi none p2) pos) (rd G W (eSl f da dl dh)) := by
  obtain ⟨r, h1, h2⟩ := hs
  refine PE_imp (pe_slice h1 ha hl hh) fun σ H Q hq => ?_
  obtain ⟨P, F, Γ, env, h⟩ := hq
  refine rd_bind env h fun o1 Γ1 v1 F1 H1 e1 env1 ho1 q1 => ?_
  obtain ⟨F2, e2, env2, hw, _⟩ := OpdOk.wait env1 ho1
  have q2 := EPost.ext e2 q1
  refine ⟨P, F2, Γ1, env2, ?_⟩
  cases hl' : dl Γ1 with
  | exc c fs Γ2 => rw [hl'] at q2; exact q2
  | stuck => rw [hl'] at q2; exact q2.elim
  | ok l Γ2 =>
    rw [hl'] at q2
    intro F3 H3 e3 env3
    have q3 := EPost.ext e3 q2
    refine ⟨P, F3, Γ2, env3, ?_⟩
    dsimp only [R.bind] at q3
    cases hh' : dh Γ2 with
    | exc c fs Γ3 => rw [hh'] at q3; exact q3
    | stuck => rw [hh'] at q3; exact q3.elim
    | ok u Γ3 =>
      rw [hh'] at q3
      intro F4 H4 e4 env4
      have q4 := EPost.ext e4 q3
      dsimp only [R.bind] at q4
      cases hx : o1.get Γ3 with
      | none => simp only [hx] at q4; exact q4.elim
      | some dx =>
        simp only [hx] at q4
        cases hf : f dx l u with
        | none => rw [hf] at q4; exact q4.elim
        | some z =>
          rw [hf] at q4
          exact h2 env4 (hw _ _ _ _ dx (e3.sub.trans e4.sub) env4 hx) hf q4

/-! ### list(range(..)), tuple(range(..)) -/
theorem rg_rep {F : Hp} (lo hi : Int) : Reps G F (zInts lo (hi - lo).toNat) (rgV lo hi) := by
  have key : ∀ (n : Nat) (l : Int), Reps G F (zInts l n) ((List.range n).map fun i => V.int (l + (i : Nat))) := by
    intro n
    induction n with
    | zero => intro l; rfl
    | succ n ih =>
      intro l
      rw [List.range_succ_eq_map,
          List.map_cons, List.map_map]
      refine ⟨_, _, rfl, by simp [Rep], ?_⟩
      have e : ((fun i : Nat => V.int (l + (i : Nat))) ∘ Nat.succ) = fun i : Nat => V.int (l + 1 + (i : Nat)) := by
        funext i
        show V.int (l + ((i + 1 : Nat) : Int)) = V.int (l + 1 + (i : Int))
        congr 1
        omega
      rw [e]
      exact ih (l + 1)
  exact key _ lo
theorem rgOk_of {a b : Int} (h : rgOk a b = true) : RgOk a b := by
  unfold rgOk inLine at h
  simp only [Bool.and_eq_true,
      decide_eq_true_eq] at h
  obtain ⟨⟨⟨h1, h2⟩, h3, h4⟩, h5⟩ := h
  exact ⟨h1, h2, h3, h4, by omega⟩
theorem rg_tr {f : Int → Int → Option Opd} {k : Int → Int → Hp → VK → Prop} (hr : ∀ {P F H : Hp} {σ : L2.St} {Γ : Env} {i j : Int} {o : Opd} {Q : VK}, EnvOk G P F H σ Γ → f i j = some o → Go G P F σ Γ o Q → k i j H Q)
    (σ : L2.St) (H : Hp) (Q : VK) (hq : rd G W (eRg f da db) σ H Q) : rd G W da σ H fun x H1 => rd G W db σ H1 fun y H2 => ∃ i j, x = .int i ∧ y = .int j ∧ k i j H2 Q := by
  obtain ⟨P, F, Γ, env, h⟩ := hq
  refine rd_bind env h fun o1 Γ1 v1 F1 H1 e1 env1 ho1 h1 => ?_
  obtain ⟨F2, e2, env2, hw, hst⟩ := OpdOk.wait env1 ho1
  refine rd_bind env2 (EPost.ext e2 h1) fun o2 Γ2 v2 F3 H3 e3 env3 ho3 h3 => ?_
  cases o1 with
  | fresh d => exact h3.elim
  | own i => exact h3.elim
  | val d =>
    cases d with
    | int i =>
      cases o2 with
      | fresh d => exact h3.elim
      | own i => exact h3.elim
      | val d2 =>
        cases d2 with
        | int j =>
          cases hf : f i j with
          | none => simp only [hf] at h3; exact h3.elim
          | some z =>
            simp only [hf] at h3
            exact ⟨i, j, hst F3 _ e3.sub rfl, ho3, hr env3 hf h3⟩
        | _ => exact h3.elim
    | _ => exact h3.elim
/-- list(range(a, b)) -/
theorem de_listRg (hc : X.calm = true) (hg : Gl X "list") (hm : X.mg "list" = none) (hr : PRg X e (tRg2 (rd G W da) (rd G W db)))
    (na : starEach [e] X.env = (false, eval e X.env) :: starEach [] X.env := by rfl) : PE X (.Call (.Name "list" p) [e] [] pos) (rd G W (eRg listRgF da db)) := by
  refine PE_imp (pe_listRg hc hg hm hr na) fun σ H Q hq => ?_
  refine rg_tr (k := fun i j H Q => RgOk i j ∧ ∀ q, H q = none → Q (.ref q) (upd H q (.lst (rgV i j)))) (fun {P F H σ Γ i j o Q} env hf q => ?_) σ H Q hq
  unfold listRgF of at hf
  split at hf
  · rename_i h
    cases hf
    exact ⟨rgOk_of h, fun p hp => q.newL env hp (rg_rep i j)⟩
  · cases hf
/-- a range a, a + c, .. as an argument -/
def PRC (X : Cx) (e : Expr) (c : Int) (t : L2.St → Hp → (Int → Int → Hp → Prop) → Prop) : Prop :=
  ∀ (pins : List (Addr × Obj)) (s : Shared) (σ : L2.St) (H : Hp) (Q : Int → Int → Hp → Prop), Inv X pins σ H s → t σ H Q →
    wpAny (model X.prog X.w) X.A (eval e X.env) (fun x s' => ∃ r a b t u v H', x = .ref r ∧ IsRange s'.heap r a b c t u v ∧ Inv X pins σ H' s' ∧ Q a b H') X.xe s
theorem prc_2 {t : L2.St → Hp → (Int → Int → Hp → Prop) → Prop} (h : PRg X e t) : PRC X e 1 t := h
/-- range(a, b, c), c written -/
theorem prc_3 {pr : Pos} {ta tb : TE} {cc : Int} (hg : Gl X "range") (hm : X.mg "range" = none) (ha : PE X a ta) (hb : PE X b tb) (hcc : PE X c (tC (.int cc))) (h0 : cc ≠ 0) (h1 : cc.natAbs < 1073741824)
    (hs : starEach [a, b, c] X.env = (false, eval a X.env) :: starEach [b, c] X.env := by rfl) (hs2 : starEach [b, c] X.env = (false, eval b X.env) :: starEach [c] X.env := by rfl) (hs3 : starEach [c] X.env = (false, eval c X.env) :: starEach [] X.env := by rfl)
    (hpl : (backTo pos (starEach [b, c] X.env)).any (·.1) = false := by rfl) : PRC X (.Call (.Name "range" pr) [a, b, c] [] pos) cc (tRg2 ta tb) := by
  intro pn sh τ Hh Qk Iv hq
  refine Call_ (ld_blt Iv hg hm boot_range (PyProof.Rows.callWith_type1 (args_cons (thn (ha.run pn sh τ Hh _ Iv hq) fun v s1 ⟨x, H1, I1, r1, q1⟩ => args_cons (thn (hb.run pn s1 τ H1 _ I1 q1) fun u s2 ⟨y, H2, I2, r2, q2⟩ =>
    one_arg hcc (R := fun z H3 => z = .int cc ∧ H3 = H2) I2 ⟨rfl, rfl⟩ (fun w' s3 z H3 I3 r3 q3 => ?_) hs3) hs2) hs) hs hpl))
  obtain ⟨i, j, rfl, rfl, q⟩ := q2
  obtain ⟨rfl, rfl⟩ := q3
  obtain ⟨t, rfl⟩ := r1
  obtain ⟨t', rfl⟩ := r2
  obtain ⟨t'', rfl⟩ := r3
  exact call_range_3 h0 ⟨_, i, j, _, _, _, H3, rfl, IsRange.new _ _ _ _ _ _ _, I3.kept fun b u e => Heap.get?_push_of_some _ e, q⟩ (.inl (PyProof.noPylong_small h1))
/-- tuple of a range -/
theorem pe_tupRgC {cc : Int} {te : L2.St → Hp → (Int → Int → Hp → Prop) → Prop} (hc : X.calm = true) (hg : Gl X "tuple") (hm : X.mg "tuple" = none) (hr : PRC X e cc te) (na : starEach [e] X.env = (false, eval e X.env) :: starEach [] X.env := by rfl) :
    PE X (.Call (.Name "tuple" p) [e] [] pos) (fun σ H Q => te σ H fun i j H1 => ∃ n : Nat, Builtin.Range.small i j cc = true ∧ Builtin.Range.rangeSize i j cc = n ∧ n ≤ 2 ^ 24 ∧
      ∀ (q : Addr) (ob : Obj), ob.dict = none → H1 q = none → Q (.ref q) (upd H1 q (.frz ob (.tup ((List.range n).map fun m => V.int (i + (m : Nat) * cc)))))) := by
  refine ⟨fun pn sh τ Hh Qk Iv hq => ?_⟩
  refine Call_ (ld_blt Iv hg hm boot_tuple (PyProof.Rows.callWith_type1 (args_cons (thn (hr pn sh τ Hh _ Iv hq) fun x s1 ⟨r, i, j, t, u, v, H1, ex, hrg, I1, n, b1, b2, b3, q⟩ => args_nil ?_) na) na))
  subst ex
  refine call_tuple_range (n := n) (I1.ok.hd hc) hrg b1 b2 b3 fun h' tk acc hk hi => ?_
  have I2 : Inv X pn τ H1 { s1 with heap := h', toks := tk } := I1.kept hk
  have hv : Vals ((List.range n).map fun m => V.int (i + (m : Nat) * cc)) acc.toList := by
    have e1 : acc.toList.length = n := by rw [Array.length_toList]; exact hi.1
    rw [← e1]
    refine vals_of_get acc.toList _ fun m w hw => ?_
    obtain ⟨tt, rfl⟩ := hi.2 m w (by rw [← hw, Array.getElem?_toList])
    exact ⟨tt, rfl⟩
  have hz : ((List.range n).map fun m => V.int (i + (m : Nat) * cc)).length ≤ sizeLine := by
    rw [List.length_map, List.length_range, sizeLine_eq]
    omega
  have J := laidZ (t' := tk) I2 hv hz
  rw [Array.toArray_toList] at J
  exact ⟨.ref h'.objs.size, _, J, rfl, q _ _ rfl (I2.hok.fresh (Nat.le_refl _))⟩
theorem step_rep {F : Hp} (c : Int) : ∀ (n : Nat) (l : Int), Reps G F (stepInts l c n) ((List.range n).map fun m => V.int (l + (m : Nat) * c))
  | 0, _ => rfl
  | n + 1, l => by
    rw [List.range_succ_eq_map,
        List.map_cons, List.map_map]
    refine ⟨_, _, rfl, by simp [Rep], ?_⟩
    have e : ((fun i : Nat => V.int (l + (i : Nat) * c)) ∘ Nat.succ) = fun i : Nat => V.int (l + c + (i : Nat) * c) := by
      funext i
      show V.int (l + ((i + 1 : Nat) : Int) * c) = V.int (l + c + (i : Int) * c)
      congr 1
      rw [Int.natCast_add, Int.add_mul]
      omega
    rw [e]
    exact step_rep c n (l + c)
theorem stepInts_one : ∀ (n : Nat) (l : Int), stepInts l 1 n = zInts l n
  | 0, _ => rfl
  | n + 1, l => by
    show D.int l :: stepInts (l + 1) 1 n = D.int l :: zInts (l + 1) n
    rw [stepInts_one]
theorem de_tupRg (hc : X.calm = true) (hg : Gl X "tuple") (hm : X.mg "tuple" = none) (hr : PRg X e (tRg2 (rd G W da) (rd G W db)))
    (na : starEach [e] X.env = (false, eval e X.env) :: starEach [] X.env := by rfl) : PE X (.Call (.Name "tuple" p) [e] [] pos) (rd G W (eRg tupRgF da db)) := by
  refine PE_imp (pe_tupRgC hc hg hm (prc_2 hr) na) fun σ H Q hq => ?_
  refine rg_tr (k := fun i j H Q => ∃ n : Nat, Builtin.Range.small i j 1 = true ∧ Builtin.Range.rangeSize i j 1 = n ∧ n ≤ 2 ^ 24 ∧
      ∀ (q : Addr) (ob : Obj), ob.dict = none → H q = none → Q (.ref q) (upd H q (.frz ob (.tup ((List.range n).map fun m => V.int (i + (m : Nat) * 1)))))) (fun {P F H σ Γ i j o Q} env hf q => ?_) σ H Q hq
  unfold tupRgF ov at hf
  split at hf
  · rename_i h
    cases hf
    obtain ⟨b1, b2, b3, b4, b5⟩ := rgOk_of h
    refine ⟨(j - i).toNat, small_one b1 b2 b3 b4, rangeSize_nat i j, b5, fun p ob hob hp => q.newT env hp hob ?_⟩
    have := step_rep (G := G) (F := F) 1 (j - i).toNat i
    rw [stepInts_one] at this
    exact this
  · cases hf
theorem de_tupRd (hc : X.calm = true) (hg : Gl X "tuple") (hm : X.mg "tuple" = none) (hr : PRC X e (-1) (tRg2 (rd G W da) (rd G W db)))
    (na : starEach [e] X.env = (false, eval e X.env) :: starEach [] X.env := by rfl) : PE X (.Call (.Name "tuple" p) [e] [] pos) (rd G W (eRg tupRdF da db)) := by
  refine PE_imp (pe_tupRgC hc hg hm hr na) fun σ H Q hq => ?_
  refine rg_tr (k := fun i j H Q => ∃ n : Nat, Builtin.Range.small i j (-1) = true ∧ Builtin.Range.rangeSize i j (-1) = n ∧ n ≤ 2 ^ 24 ∧
      ∀ (q : Addr) (ob : Obj), ob.dict = none → H q = none → Q (.ref q) (upd H q (.frz ob (.tup ((List.range n).map fun m => V.int (i + (m : Nat) * (-1))))))) (fun {P F H σ Γ i j o Q} env hf q => ?_) σ H Q hq
  unfold tupRdF ov at hf
  split at hf
  · rename_i h
    cases hf
    obtain ⟨b1, b2, b3, b4, b5⟩ := rgOk_of h
    obtain ⟨_, _, c2, c3⟩ := RgC.neg b3 b4 b1 b2
    exact ⟨(i - j).toNat, c2, c3, b5, fun p ob hob hp => q.newT env hp hob (step_rep (-1) _ i)⟩
  · cases hf

/-! ### a def of the text -/
def spD (G : Gx) (fn : Fn) : Sp := fun vs H Q E => ∃ (F : Hp) (ds : List D), Same F H ∧ Reps G F ds vs ∧ match fn ds with
  | .ok d => ∀ v F' H', Same H H' → Same F' H' → Ext H F F' → Rep G F' d v → Q v H'
  | .exc c fs => ∀ F' H' cls d, Same H H' → Same F' H' → Ext H F F' → ExcOk G F' c fs cls d H' → E cls d H'
  | .stuck => False
mutual
/-- without lists what is data stays data when lists are no more shared -/
theorem Rep.unshare {F F' : Hp} (hF : ∀ a o u, F a = some (.frz o u) → F' a = some (.frz o u)) : ∀ {d : D} {v : V}, noMut d = true → Rep G F d v → Rep G F' d v
  | .non, _, _, h => h
  | .bl _, _, _, h => h
  | .int _, _, _, h => h
  | .str _, _, _, h => h
  | .tup ds, v, p, h => by
    obtain ⟨a, xs, rfl, h1, h2⟩ := h
    simp only [noMut] at p
    refine ⟨a, xs, rfl, ?_, Reps.unshare hF p h2⟩
    rcases h1 with ⟨o, h1, hd⟩ | h1
    · exact .inl ⟨o, hF _ _ _ h1, hd⟩
    · exact .inr h1
  | .lst ds, _, p, _ => by simp only [noMut, Bool.false_eq_true] at p
  | .scr ds, _, p, _ => by simp only [noMut, Bool.false_eq_true] at p
  | .dK ds, _, p, _ => by simp only [noMut, Bool.false_eq_true] at p
  | .dT ds, _, p, _ => by simp only [noMut, Bool.false_eq_true] at p
  | .ins c fs, _, p, _ => by simp only [noMut, Bool.false_eq_true] at p
theorem Reps.unshare {F F' : Hp} (hF : ∀ a o u, F a = some (.frz o u) → F' a = some (.frz o u)) : ∀ {ds : List D} {vs : List V}, noMuts ds = true → Reps G F ds vs → Reps G F' ds vs
  | [], _, _, h => h
  | d :: ds, _, p, h => by
    obtain ⟨v, r, rfl, h1, h2⟩ := h
    simp only [noMuts, Bool.and_eq_true] at p
    exact ⟨v, r, rfl, Rep.unshare hF p.1 h1, Reps.unshare hF p.2 h2⟩
end

mutual
/-- the same of data with instances -/
theorem Rep.unshareI {F F' : Hp} (hF : ∀ a o u, F a = some (.frz o u) → F' a = some (.frz o u)) (hI : ∀ a C dx xs, F a = some (.ins C dx xs) → F' a = some (.ins C dx xs)) : ∀ {d : D} {v : V}, noMutI d = true → Rep G F d v → Rep G F' d v
  | .non, _, _, h => h
  | .bl _, _, _, h => h
  | .int _, _, _, h => h
  | .str _, _, _, h => h
  | .tup ds, v, p, h => by
    obtain ⟨a, xs, rfl, h1, h2⟩ := h
    simp only [noMutI] at p
    refine ⟨a, xs, rfl, ?_, Reps.unshareI hF hI p h2⟩
    rcases h1 with ⟨o, h1, hd⟩ | h1
    · exact .inl ⟨o, hF _ _ _ h1, hd⟩
    · exact .inr h1
  | .lst ds, _, p, _ => by simp only [noMutI, Bool.false_eq_true] at p
  | .scr ds, _, p, _ => by simp only [noMutI, Bool.false_eq_true] at p
  | .dK ds, _, p, _ => by simp only [noMutI, Bool.false_eq_true] at p
  | .dT ds, _, p, _ => by simp only [noMutI, Bool.false_eq_true] at p
  | .ins c fs, _, p, h => by
    obtain ⟨a, C, dx, xs, rfl, h1, h2, h3⟩ := h
    simp only [noMutI] at p
    exact ⟨a, C, dx, xs, rfl, hI _ _ _ _ h1, h2, RepF.unshareI hF hI p h3⟩
theorem Reps.unshareI {F F' : Hp} (hF : ∀ a o u, F a = some (.frz o u) → F' a = some (.frz o u)) (hI : ∀ a C dx xs, F a = some (.ins C dx xs) → F' a = some (.ins C dx xs)) : ∀ {ds : List D} {vs : List V}, noMutIs ds = true → Reps G F ds vs → Reps G F' ds vs
  | [], _, _, h => h
  | d :: ds, _, p, h => by
    obtain ⟨v, r, rfl, h1, h2⟩ := h
    simp only [noMutIs, Bool.and_eq_true] at p
    exact ⟨v, r, rfl, Rep.unshareI hF hI p.1 h1, Reps.unshareI hF hI p.2 h2⟩
theorem RepF.unshareI {F F' : Hp} (hF : ∀ a o u, F a = some (.frz o u) → F' a = some (.frz o u)) (hI : ∀ a C dx xs, F a = some (.ins C dx xs) → F' a = some (.ins C dx xs)) : ∀ {ds : List (Str × D)} {vs : List (Str × V)}, noMutIF ds = true → RepF G F ds vs → RepF G F' ds vs
  | [], _, _, h => h
  | (k, d) :: ds, _, p, h => by
    obtain ⟨v, r, rfl, h1, h2⟩ := h
    simp only [noMutIF, Bool.and_eq_true] at p
    exact ⟨v, r, rfl, Rep.unshareI hF hI p.1 h1, RepF.unshareI hF hI p.2 h2⟩
end
theorem RepF.unshare {F F' : Hp} (hF : ∀ a o u, F a = some (.frz o u) → F' a = some (.frz o u)) : ∀ {ds : List (Str × D)} {vs : List (Str × V)}, noMutF ds = true → RepF G F ds vs → RepF G F' ds vs
  | [], _, _, h => h
  | (k, d) :: ds, _, p, h => by
    obtain ⟨v, r, rfl, h1, h2⟩ := h
    simp only [noMutF, Bool.and_eq_true] at p
    exact ⟨v, r, rfl, Rep.unshare hF p.1 h1, RepF.unshare hF p.2 h2⟩

/-- the addresses that slots own -/
def Owned (σ : L2.St) (Γ : Env) (a : Addr) : Prop := ∃ (i : Nat) (d : D), Γ[i]? = some (.ow d) ∧ σ[i]? = some (some (.ref a))
theorem OwnAt.notFrz {F H : Hp} {d : D} {a : Addr} {o : Obj} {u : HO} (h : OwnAt G F H d a) : H a ≠ Option.some (HO.frz o u) := by
  cases d with
  | lst ds =>
    obtain ⟨xs, h1, _⟩ := h
    rw [h1]
    intro z
    cases z
  | dK ds =>
    obtain ⟨xs, h1, _⟩ := h
    rw [h1]
    intro z
    cases z
  | dT ds =>
    obtain ⟨xs, h1, _⟩ := h
    rw [h1]
    intro z
    cases z
  | ins c ds =>
    obtain ⟨C, dx, xs, h1, _⟩ := h
    rw [h1]
    intro z
    cases z
  | _ => exact h.elim
theorem OwnAt.notXd {F H : Hp} {d : D} {a : Addr} {xs : List (Str × V)} (h : OwnAt G F H d a) : H a ≠ Option.some (HO.xd xs) := by
  cases d with
  | lst ds => obtain ⟨xs, h1, _⟩ := h; rw [h1]; intro z; cases z
  | dK ds => obtain ⟨xs, h1, _⟩ := h; rw [h1]; intro z; cases z
  | dT ds => obtain ⟨xs, h1, _⟩ := h; rw [h1]; intro z; cases z
  | ins c ds => obtain ⟨C, dx, xs, h1, _⟩ := h; rw [h1]; intro z; cases z
  | _ => exact h.elim
theorem OwnAt.isIns {F H : Hp} {d : D} {a C dx : Addr} {xs : List (Str × V)} (h : OwnAt G F H d a) (e : H a = Option.some (HO.ins C dx xs)) : ∃ c fs, d = .ins c fs := by
  cases d with
  | lst ds => obtain ⟨xs, h1, _⟩ := h; rw [h1] at e; cases e
  | dK ds => obtain ⟨xs, h1, _⟩ := h; rw [h1] at e; cases e
  | dT ds => obtain ⟨xs, h1, _⟩ := h; rw [h1] at e; cases e
  | ins c ds => exact ⟨_, _, rfl⟩
  | _ => exact h.elim
theorem EnvOk.owned {P F H : Hp} {σ : L2.St} {Γ : Env} {a : Addr} (env : EnvOk G P F H σ Γ) (h : Owned σ Γ a) : P a = none ∧ F a = none ∧ ∃ d, OwnAt G F H d a := by
  obtain ⟨i, d, h1, h2⟩ := h
  obtain ⟨b, e1, e2, e3, e4⟩ := env.slot i _ h1
  rw [h2] at e1
  cases e1
  exact ⟨e2, e3, d, e4⟩
/-- behind a call that knows the shared part alone -/
theorem EnvOk.after {P F F' H H' : Hp} {σ : L2.St} {Γ : Env} (env : EnvOk G P F H σ Γ) (sH : Same H H') (sF : Same F' H') (x : Ext H F F') : EnvOk G P F' H' σ Γ ∧ Ext P F F' := by
  refine ⟨⟨env.pf.trans sH, sF, env.len, fun i s hs => (env.slot i s hs).mono x.sub fun a d hd hv => ?_, env.dis, env.me0⟩, x.sub, fun a o e => ?_⟩
  · subst hd
    obtain ⟨b, e1, _, e3, e4⟩ := env.slot i _ hs
    rw [e1] at hv
    cases hv
    obtain ⟨u, hu⟩ := e4.some
    refine ⟨?_, (sH _ _ hu).trans hu.symm⟩
    cases q : F' a with
    | none => rfl
    | some o =>
      rcases x.new a o q with z | z
      · rw [e3] at z; cases z
      · rw [hu] at z; cases z
  · rcases x.new a o e with z | z
    · exact .inl z
    · exact .inr (env.pf.free z)
open Classical in
/-- the shared part with all that slots own -/
noncomputable def lend (F H : Hp) (σ : L2.St) (Γ : Env) : Hp := fun a => if Owned σ Γ a then H a else F a
open Classical in
/-- .. taken back -/
noncomputable def unlend (F1 : Hp) (σ : L2.St) (Γ : Env) : Hp := fun a => if Owned σ Γ a then none else F1 a
section
variable {P F H F1 H' : Hp} {σ : L2.St} {Γ : Env}
theorem lend_yes {a : Addr} (h : Owned σ Γ a) : lend F H σ Γ a = H a := if_pos h
theorem lend_no {a : Addr} (h : ¬ Owned σ Γ a) : lend F H σ Γ a = F a := if_neg h
theorem unlend_yes {a : Addr} (h : Owned σ Γ a) : unlend F1 σ Γ a = none := if_pos h
theorem unlend_no {a : Addr} (h : ¬ Owned σ Γ a) : unlend F1 σ Γ a = F1 a := if_neg h
theorem lend_sub (env : EnvOk G P F H σ Γ) : Same F (lend F H σ Γ) := fun a o e => by
  by_cases h : Owned σ Γ a
  · rw [(env.owned h).2.1] at e; cases e
  · rw [lend_no h]; exact e
theorem lend_le (env : EnvOk G P F H σ Γ) : Same (lend F H σ Γ) H := fun a o e => by
  by_cases h : Owned σ Γ a
  · rw [lend_yes h] at e; exact e
  · rw [lend_no h] at e; exact env.fh _ _ e
theorem lend_rep (env : EnvOk G P F H σ Γ) : ∀ {os : List Opd} {vs : List V} {ds : List D}, WOpds G F σ os vs → gets Γ os = some ds → Reps G (lend F H σ Γ) ds vs
  | [], _, _, h, g => by
    cases g
    exact h
  | o :: os, _, _, h, g => by
    obtain ⟨v, r, rfl, h1, h2⟩ := h
    unfold gets at g
    cases ho : o.get Γ with
    | none => rw [ho] at g; cases g
    | some d =>
      cases hg : gets Γ os with
      | none => rw [ho, hg] at g; cases g
      | some ds =>
        rw [ho, hg] at g
        cases g
        refine ⟨v, r, rfl, ?_, lend_rep env h2 hg⟩
        rcases h1 with ⟨d', e1, e2⟩ | ⟨i, rfl, e1⟩
        · have : o.get Γ = some d' := by
            cases o with
            | val z => exact e1
            | fresh z => exact e1
            | own i => cases e1
          rw [ho] at this
          cases this
          exact Rep.mono (lend_sub env) e2
        · have hs : slotD Γ[i]? = some d := ho
          cases hsl : Γ[i]? with
          | none => rw [hsl] at hs; cases hs
          | some s =>
            rw [hsl] at hs
            cases s with
            | no => cases hs
            | ex c fs => cases hs
            | sh d' =>
              cases hs
              obtain ⟨x, k1, k2⟩ := env.slot i _ hsl
              rw [e1] at k1
              cases k1
              exact Rep.mono (lend_sub env) k2
            | ow d' =>
              cases hs
              obtain ⟨a, k1, k2, k3, k4⟩ := env.slot i _ hsl
              rw [e1] at k1
              cases k1
              have hO : Owned σ Γ a := ⟨i, _, hsl, e1⟩
              cases d with
              | lst ds' =>
                obtain ⟨xs, m1, m2⟩ := k4
                exact ⟨a, xs, rfl, (lend_yes hO).trans m1, Reps.mono (lend_sub env) m2⟩
              | dK ds' =>
                obtain ⟨xs, m1, m2⟩ := k4
                exact ⟨a, xs, rfl, (lend_yes hO).trans m1, RepK.mono (lend_sub env) m2⟩
              | dT ds' =>
                obtain ⟨xs, m1, m2⟩ := k4
                exact ⟨a, xs, rfl, (lend_yes hO).trans m1, RepT.mono (lend_sub env) m2⟩
              | ins c ds' =>
                obtain ⟨C, dx, xs, m1, m2, m3⟩ := k4
                exact ⟨a, C, dx, xs, rfl, (lend_yes hO).trans m1, m2, RepF.mono (lend_sub env) m3⟩
              | _ => exact k4.elim
/-- behind a call that was lent what slots own -/
theorem EnvOk.afterLent (env : EnvOk G P F H σ Γ) (sH : Same H H') (sF : Same F1 H') (x : Ext H (lend F H σ Γ) F1) : EnvOk G P (unlend F1 σ Γ) H' σ Γ ∧ Ext P F (unlend F1 σ Γ) ∧ ∀ a o u, F1 a = some (.frz o u) → unlend F1 σ Γ a = some (.frz o u) := by
  have sub : Same F (unlend F1 σ Γ) := fun a o e => by
    have hn : ¬ Owned σ Γ a := fun h => by rw [(env.owned h).2.1] at e; cases e
    rw [unlend_no hn]
    exact x.sub _ _ (lend_sub env _ _ e)
  refine ⟨⟨env.pf.trans sH, fun a o e => ?_, env.len, fun i s hs => (env.slot i s hs).mono sub fun a d hd hv => ?_, env.dis, env.me0⟩, ⟨sub, fun a o e => ?_⟩, fun a o u e => ?_⟩
  · by_cases h : Owned σ Γ a
    · rw [unlend_yes h] at e; cases e
    · rw [unlend_no h] at e; exact sF _ _ e
  · subst hd
    have hO : Owned σ Γ a := ⟨i, d, hs, hv⟩
    obtain ⟨_, _, d2, h4⟩ := env.owned hO
    obtain ⟨u, hu⟩ := h4.some
    exact ⟨unlend_yes hO, (sH _ _ hu).trans hu.symm⟩
  · by_cases h : Owned σ Γ a
    · rw [unlend_yes h] at e; cases e
    · rw [unlend_no h] at e
      rcases x.new a o e with z | z
      · rw [lend_no h] at z; exact .inl z
      · exact .inr (env.pf.free z)
  · by_cases h : Owned σ Γ a
    · obtain ⟨_, _, d2, h4⟩ := env.owned h
      obtain ⟨w, hw⟩ := h4.some
      have e2 : F1 a = some w := x.sub _ _ ((lend_yes h).trans hw)
      rw [e] at e2
      cases e2
      exact absurd hw (OwnAt.notFrz h4)
    · rw [unlend_no h]; exact e
end
theorem EnvOk.unlendXd {P F H F1 H' : Hp} {σ : L2.St} {Γ : Env} (env : EnvOk G P F H σ Γ) (x : Ext H (lend F H σ Γ) F1) (a : Addr) (xs : List (Str × V)) (e : F1 a = some (.xd xs)) : unlend F1 σ Γ a = some (.xd xs) := by
  by_cases h : Owned σ Γ a
  · obtain ⟨_, _, d2, h4⟩ := env.owned h
    obtain ⟨w, hw⟩ := h4.some
    have e2 : F1 a = some w := x.sub _ _ ((lend_yes h).trans hw)
    rw [e] at e2
    cases e2
    exact absurd hw (OwnAt.notXd h4)
  · rw [unlend_no h]; exact e
theorem EnvOk.unlendIns {P F H F1 H' : Hp} {σ : L2.St} {Γ : Env} (env : EnvOk G P F H σ Γ) (hn : noOwnIns Γ = true) (x : Ext H (lend F H σ Γ) F1) (a C dx : Addr) (xs : List (Str × V)) (e : F1 a = some (.ins C dx xs)) : unlend F1 σ Γ a = some (.ins C dx xs) := by
  by_cases h : Owned σ Γ a
  · obtain ⟨i, d, h1, h2⟩ := h
    obtain ⟨b, e1, _, e3, e4⟩ := env.slot i _ h1
    rw [h2] at e1
    cases e1
    obtain ⟨w, hw⟩ := e4.some
    have e2 : F1 a = some w := x.sub _ _ ((lend_yes ⟨i, d, h1, h2⟩).trans hw)
    rw [e] at e2
    cases e2
    obtain ⟨c, fs, rfl⟩ := OwnAt.isIns e4 hw
    unfold noOwnIns at hn
    rw [List.all_eq_true] at hn
    exact absurd (hn _ (List.mem_of_getElem? h1)) (by simp)
  · rw [unlend_no h]; exact e
theorem WOpds.noOwn {P F H : Hp} {σ : L2.St} {Γ : Env} (env : EnvOk G P F H σ Γ) : ∀ {os : List Opd} {vs : List V} {ds : List D}, WOpds G F σ os vs → gets Γ os = some ds → os.any Opd.isOwn = false → Reps G F ds vs
  | [], _, _, h, g, _ => by
    cases g
    exact h
  | o :: os, _, _, h, g, na => by
    obtain ⟨v, r, rfl, h1, h2⟩ := h
    simp only [List.any_cons, Bool.or_eq_false_iff] at na
    unfold gets at g
    cases ho : o.get Γ with
    | none => rw [ho] at g; cases g
    | some d =>
      cases hg : gets Γ os with
      | none => rw [ho, hg] at g; cases g
      | some ds =>
        rw [ho, hg] at g
        cases g
        refine ⟨v, r, rfl, ?_, WOpds.noOwn env h2 hg na.2⟩
        rcases h1 with ⟨d', e1, e2⟩ | ⟨i, rfl, e1⟩
        · have : o.get Γ = some d' := by
            cases o with
            | val z => exact e1
            | fresh z => exact e1
            | own i => cases e1
          rw [ho] at this
          cases this
          exact e2
        · cases na.1
/-- what a call leaves -/
theorem call_tr {fn : Fn} {P F H : Hp} {σ : L2.St} {Γ : Env} {os : List Opd} {vs : List V} {Q : VK} (env : EnvOk G P F H σ Γ) (ho : WOpds G F σ os vs) (h : EPost G W P F σ Q (callR fn os Γ)) : spD G fn vs H Q (fun cls d H' => W cls d σ H') := by
  unfold callR at h
  cases hg : gets Γ os with
  | none => simp only [hg] at h; exact h.elim
  | some ds =>
    simp only [hg] at h
    by_cases hown : os.any Opd.isOwn = true
    · refine ⟨lend F H σ Γ, ds, lend_le env, lend_rep env ho hg, ?_⟩
      cases hf : fn ds with
      | stuck => rw [hf] at h; exact h.elim
      | ok d =>
        rw [hf] at h
        simp only [hown, if_true] at h
        split at h
        · rename_i hm
          intro v F' H' sH sF x r
          obtain ⟨env2, x2, hz⟩ := env.afterLent sH sF x
          rw [Bool.or_eq_true, Bool.and_eq_true] at hm
          rcases hm with hm | ⟨hm, hn⟩
          · exact h v _ H' x2 env2 (Rep.unshare hz hm r)
          · exact h v _ H' x2 env2 (Rep.unshareI hz (fun a C dx xs e => env.unlendIns (H' := H') hn x a C dx xs e) hm r)
        · exact h.elim
      | exc c fs =>
        rw [hf] at h
        intro F' H' cls d sH sF x ex
        obtain ⟨env2, x2, hz⟩ := env.afterLent sH sF x
        obtain ⟨e1, ⟨rfl, e3⟩ | ⟨fl, dd, xs, rfl, e4, e5, e6⟩⟩ := ex
        · simp only [List.isEmpty_nil, Bool.true_or, if_true] at h
          exact h _ H' cls d x2 env2 ⟨e1, .inl ⟨rfl, e3⟩⟩
        · simp only [List.isEmpty_cons, hown, Bool.not_true, Bool.false_or] at h
          split at h
          · rename_i hm
            exact h _ H' cls d x2 env2 ⟨e1, .inr ⟨fl, dd, xs, rfl, e4, env.unlendXd (H' := H') x dd xs e5, RepF.unshare hz hm e6⟩⟩
          · exact h.elim
    · have hown : os.any Opd.isOwn = false := by
        cases e : os.any Opd.isOwn with
        | true => exact absurd e hown
        | false => rfl
      refine ⟨F, ds, env.fh, ho.noOwn env hg hown, ?_⟩
      cases hf : fn ds with
      | stuck => rw [hf] at h; exact h.elim
      | ok d =>
        rw [hf] at h
        simp only [hown, Bool.false_eq_true, if_false] at h
        intro v F' H' sH sF x r
        obtain ⟨env2, x2⟩ := env.after sH sF x
        exact h v _ H' x2 env2 r
      | exc c fs =>
        rw [hf] at h
        intro F' H' cls d sH sF x ex
        obtain ⟨env2, x2⟩ := env.after sH sF x
        simp only [hown, Bool.not_false, Bool.or_true, Bool.true_or, if_true] at h
        exact h _ H' cls d x2 env2 ex
/-- what is let out, by the form cx of exceptions, is taken -/
def Lets (cx : CXT) (X : Cx) (W : WX) : Prop := ∀ σ, PassesAt cx X σ (WE W σ)
theorem lets (tk : Takes X W) : Lets (L2.CX X.prog X.w) X W := fun σ => passAt tk σ
theorem cx_down {P : Program} {w : World} {outer : List PySem.Env} {H : Hp} {s s' : Shared} {E : XK} {u : Value} (h : L2N.CX P w outer H s E u s') : L2.CX P w outer H s E u s' := by
  obtain ⟨a, B, H', cls, d, e, fl, r⟩ := h
  exact ⟨a, B, H', cls, d, e, L2H.flyingZ_imp (fun o z => z.zc) fl, r⟩
theorem letsM (tk : Takes X W) : Lets (L2N.CX X.prog X.w) X W := fun σ pins H s e s' I c => passAt tk σ pins H s e s' I (cx_down c)
theorem letsN (tk : L2N.Takes X W) : Lets (L2N.CX X.prog X.w) X W := fun σ => L2N.passAt tk σ
theorem down {P : Program} {w : World} {K : PySem.W.Frag} {mg : Str → Option Value} {base : Heap} {k : Nat} {f : Addr} {fd : FuncData} {ps : List Str} {sp : Sp} (F : FnOk P w K mg base (L2N.CX P w) k f fd ps sp) : FnOk P w K mg base (L2.CX P w) k f fd ps sp :=
  ⟨F.len, fun A outer s H args us vs Q E a b c d e => codeAny_mono (F.run A outer s H args us vs Q E a b c d e) fun r s' h => by
    cases r with
    | ok fl => cases fl <;> exact h
    | error er => exact cx_down h⟩
theorem de_call {x : Str} {fn : Fn} {t : As} {k : Nat} {f : Addr} {fd : FuncData} {ps : List Str} {cx : CXT} (F : FnOk X.prog X.w X.K X.mg X.base cx k f fd ps (spD G fn)) (hr : Room k X.A) (hg : Gl X x) (hm : X.mg x = some (.ref f)) (hk : PySem.W.keepIn X.K (.ref f) = true) (hb : Binds X.K fd ps [])
    (tk : Lets cx X W) (ha : PA X (e :: es) (rdA G W t)) (hdb : (x == ("__debug__" : Str)) = false := by decide) (he : starEach (e :: es) X.env = (false, eval e X.env) :: starEach es X.env := by rfl) (hpl : (backTo pos (starEach es X.env)).any (·.1) = false := by rfl) :
    PE X (.Call (.Name x p) (e :: es) [] pos) (rd G W (eCall fn t)) := by
  refine PE_imp (pe_callSD F hr hg hm hk hb .nil tk ha hdb he hpl) fun σ H Q hq => ?_
  obtain ⟨P, F0, Γ, env, h⟩ := hq
  refine rdA_bind env h fun os Γ1 vs F1 H1 e1 env1 ho h1 => ?_
  rw [List.append_nil]
  exact call_tr env1 ho h1
end
end DP

/-! DpRules3: methods, truth values, tests. -/
namespace DP
open PySem PySem.Spec
    PyProof.Rows L2

section
variable {G : Gx} {W : WX} {X : Cx} {a b c e o : Expr} {es rest : List Expr} {pos p apos cpos p2 : Pos} {da db dc : E}

/-! ### slots set -/
section
variable {P F H H' : Hp} {σ : L2.St} {Γ : Env}
theorem len_get {α : Type} {i : Nat} {l : List α} {x : α} (h : l[i]? = some x) : i < l.length := (List.getElem?_eq_some_iff.mp h).1
theorem hz_of {P F H : Hp} {σ : L2.St} {Γ : Env} {i : Nat} {v : Option V} (env : EnvOk G P F H σ Γ) (h : G.me = none ∨ i ≠ 0) : ∀ x, G.me = some x → (σ.set i v)[0]? = some (some (.ref x)) := fun x hx => by
  rcases h with h | h
  · rw [h] at hx; cases hx
  · rw [List.getElem?_set_ne h]; exact env.me0 x hx
theorem EnvOk.setSh {d : D} {v : V} (env : EnvOk G P F H σ Γ) (r : Rep G F d v) (i : Nat) (hz : ∀ x, G.me = some x → (σ.set i (some v))[0]? = some (some (.ref x))) : EnvOk G P F H (σ.set i (some v)) (Γ.set i (.sh d)) where
  pf := env.pf
  fh := env.fh
  len := by rw [List.length_set, List.length_set]; exact env.len
  slot := fun j s hs => by
    by_cases hj : i = j
    · subst hj
      have hl : i < Γ.length := by simpa using len_get hs
      rw [List.getElem?_set_self hl] at hs
      cases hs
      rw [List.getElem?_set_self (by rw [← env.len]; exact hl)]
      exact ⟨v, rfl, r⟩
    · rw [List.getElem?_set_ne hj] at hs ⊢
      exact env.slot j s hs
  me0 := hz
  dis := fun j k a d1 e1 h1 h2 h3 h4 => by
    by_cases hj : i = j
    · subst hj
      have hl : i < Γ.length := by simpa using len_get h1
      rw [List.getElem?_set_self hl] at h1
      cases h1
    · by_cases hk : i = k
      · subst hk
        have hl : i < Γ.length := by simpa using len_get h2
        rw [List.getElem?_set_self hl] at h2
        cases h2
      · rw [List.getElem?_set_ne hj] at h1 h3
        rw [List.getElem?_set_ne hk] at h2 h4
        exact env.dis j k a d1 e1 h1 h2 h3 h4
theorem EnvOk.setNo {v : Option V} (env : EnvOk G P F H σ Γ) (i : Nat) (hz : ∀ x, G.me = some x → (σ.set i v)[0]? = some (some (.ref x))) : EnvOk G P F H (σ.set i v) (Γ.set i .no) where
  pf := env.pf
  fh := env.fh
  len := by rw [List.length_set, List.length_set]; exact env.len
  slot := fun j s hs => by
    by_cases hj : i = j
    · subst hj
      have hl : i < Γ.length := by simpa using len_get hs
      rw [List.getElem?_set_self hl] at hs
      cases hs
      trivial
    · rw [List.getElem?_set_ne hj] at hs ⊢
      exact env.slot j s hs
  me0 := hz
  dis := fun j k a d1 e1 h1 h2 h3 h4 => by
    by_cases hj : i = j
    · subst hj
      have hl : i < Γ.length := by simpa using len_get h1
      rw [List.getElem?_set_self hl] at h1
      cases h1
    · by_cases hk : i = k
      · subst hk
        have hl : i < Γ.length := by simpa using len_get h2
        rw [List.getElem?_set_self hl] at h2
        cases h2
      · rw [List.getElem?_set_ne hj] at h1 h3
        rw [List.getElem?_set_ne hk] at h2 h4
        exact env.dis j k a d1 e1 h1 h2 h3 h4
theorem EnvOk.setOw {d : D} {a : Addr} (env : EnvOk G P F H σ Γ) (hP : P a = none) (hF : F a = none) (ho : OwnAt G F H d a) (hn : ∀ (i : Nat) (e : D), Γ[i]? = some (.ow e) → σ[i]? ≠ some (some (.ref a))) (i : Nat) (hz : ∀ x, G.me = some x → (σ.set i (some (.ref a)))[0]? = some (some (.ref x))) :
    EnvOk G P F H (σ.set i (some (.ref a))) (Γ.set i (.ow d)) where
  pf := env.pf
  fh := env.fh
  len := by rw [List.length_set, List.length_set]; exact env.len
  slot := fun j s hs => by
    by_cases hj : i = j
    · subst hj
      have hl : i < Γ.length := by simpa using len_get hs
      rw [List.getElem?_set_self hl] at hs
      cases hs
      rw [List.getElem?_set_self (by rw [← env.len]; exact hl)]
      exact ⟨a, rfl, hP, hF, ho⟩
    · rw [List.getElem?_set_ne hj] at hs ⊢
      exact env.slot j s hs
  me0 := hz
  dis := fun j k b d1 e1 h1 h2 h3 h4 => by
    by_cases hj : i = j
    · by_cases hk : i = k
      · exact hj.symm.trans hk
      · subst hj
        have hl : i < Γ.length := by simpa using len_get h1
        rw [List.getElem?_set_self (by rw [← env.len]; exact hl)] at h3
        cases h3
        rw [List.getElem?_set_ne hk] at h2 h4
        exact absurd h4 (hn k e1 h2)
    · by_cases hk : i = k
      · subst hk
        have hl : i < Γ.length := by simpa using len_get h2
        rw [List.getElem?_set_self (by rw [← env.len]; exact hl)] at h4
        cases h4
        rw [List.getElem?_set_ne hj] at h1 h3
        exact absurd h3 (hn j d1 h1)
      · rw [List.getElem?_set_ne hj] at h1 h3
        rw [List.getElem?_set_ne hk] at h2 h4
        exact env.dis j k b d1 e1 h1 h2 h3 h4
/-- the own object of slot i is changed -/
theorem EnvOk.mut {d d' : D} {a : Addr} {u : HO} {i : Nat} (env : EnvOk G P F H σ Γ) (hi : Γ[i]? = some (.ow d)) (hv : σ[i]? = some (some (.ref a))) (ho : OwnAt G F (upd H a u) d' a) : EnvOk G P F (upd H a u) σ (Γ.set i (.ow d')) where
  pf := fun b o e => by
    obtain ⟨c, h1, h2, h3, _⟩ := env.slot i _ hi
    rw [hv] at h1
    cases h1
    rw [upd_ne (ne_of_none e h2)]
    exact env.pf b o e
  fh := fun b o e => by
    obtain ⟨c, h1, h2, h3, _⟩ := env.slot i _ hi
    rw [hv] at h1
    cases h1
    rw [upd_ne (ne_of_none e h3)]
    exact env.fh b o e
  len := by rw [List.length_set]; exact env.len
  slot := fun j s hs => by
    obtain ⟨c, h1, h2, h3, _⟩ := env.slot i _ hi
    rw [hv] at h1
    cases h1
    by_cases hj : i = j
    · subst hj
      rw [List.getElem?_set_self (len_get hi)] at hs
      cases hs
      exact ⟨a, hv, h2, h3, ho⟩
    · rw [List.getElem?_set_ne hj] at hs
      refine (env.slot j s hs).mono (Same.refl _) fun b d2 hd hb => ?_
      subst hd
      obtain ⟨b', k1, _, k3, _⟩ := env.slot j _ hs
      rw [hb] at k1
      cases k1
      refine ⟨k3, upd_ne fun z => ?_⟩
      subst z
      exact hj (env.dis i j _ d d2 hi hs hv hb)
  me0 := env.me0
  dis := fun j k b d1 e1 h1 h2 h3 h4 => by
    have look : ∀ {m : Nat} {dd : D}, (Γ.set i (.ow d'))[m]? = some (.ow dd) → ∃ d3, Γ[m]? = some (.ow d3) := fun {m dd} h => by
      by_cases hm : i = m
      · subst hm; exact ⟨d, hi⟩
      · rw [List.getElem?_set_ne hm] at h; exact ⟨dd, h⟩
    obtain ⟨d3, g1⟩ := look h1
    obtain ⟨d4, g2⟩ := look h2
    exact env.dis j k b d3 d4 g1 g2 h3 h4
end

/-! ### methods that change the own list of a slot -/
def MutD (G : Gx) (r : V → List V → Hp → VK → Prop) (f : D → List D → Option (D × D)) : Prop :=
  ∀ {F H : Hp} {d d' v : D} {es : List D} {vs : List V} {a : Addr} {Q : VK}, OwnAt G F H d a → F a = none → Reps G F es vs → f d es = some (v, d') → (∀ v' u, Rep G F v v' → OwnAt G F (upd H a u) d' a → Q v' (upd H a u)) → r (.ref a) vs H Q
theorem mutd_append : MutD G rAppend appendM := by
  intro F H d d' v es vs a Q ho hF hr hf q
  unfold appendM at hf
  split at hf
  · split at hf
    · rename_i xs y hl
      cases hf
      obtain ⟨ys, h1, h2⟩ := ho
      obtain ⟨w, r0, rfl, k1, k2⟩ := hr
      rw [show r0 = [] from k2]
      exact ⟨a, ys, w, rfl, rfl, h1, by rw [h2.length]; exact line_lt hl, q .non _ rfl ⟨_, upd_same, h2.append (Reps.one k1)⟩⟩
    · cases hf
  · cases hf
theorem mutd_pop : MutD G rPop pop0M := by
  intro F H d d' v es vs a Q ho hF hr hf q
  cases es with
  | cons e es => cases d <;> cases hf
  | nil =>
    cases d with
    | lst xs =>
      obtain ⟨ys, h1, h2⟩ := ho
      have hf : (match xs[xs.length - 1]? with | some y => some (y, D.lst xs.dropLast) | none => none) = some (v, d') := hf
      cases hx : xs[xs.length - 1]? with
      | none => rw [hx] at hf; cases hf
      | some y =>
        rw [hx] at hf
        cases hf
        obtain ⟨w, hw, rw'⟩ := h2.get hx
        refine ⟨a, ys, w, rfl, hr, h1, by rw [h2.length]; exact hw, q w _ rw' ⟨_, upd_same, ?_⟩⟩
        rw [List.dropLast_eq_take, List.dropLast_eq_take, h2.length]
        exact h2.take _
    | _ => cases hf
theorem erase_get {α : Type} : ∀ (l : List α) (k j : Nat), (l.eraseIdx k)[j]? = l[if j < k then j else j + 1]? := fun l k j => by
  rw [List.getElem?_eraseIdx]
  split <;> rfl
theorem Reps.erase {F : Hp} {ds : List D} {vs : List V} (h : Reps G F ds vs) (k : Nat) : Reps G F (ds.eraseIdx k) (vs.eraseIdx k) :=
  h.pick (by rw [List.length_eraseIdx, List.length_eraseIdx, h.length]) (fun j => if j < k then j else j + 1) (fun i d e => by rw [erase_get] at e; exact e) (fun i d e => by rw [erase_get] at e; exact e)
theorem mutd_popAt : MutD G rPopAt popAtM := by
  intro F H d d' v es vs a Q ho hF hr hf q
  match es, hf with
  | [], hf => cases d <;> cases hf
  | e :: _ :: _, hf => cases d <;> cases e <;> cases hf
  | [e], hf =>
    cases d with
    | lst xs =>
      cases e with
      | int i =>
        obtain ⟨ys, h1, h2⟩ := ho
        obtain ⟨w0, r0, rfl, k1, k2⟩ := hr
        rw [show r0 = [] from k2, show w0 = .int i from k1]
        have hf : (if (decide (0 ≤ i) && decide (i < xs.length) && decide (xs.length < 1000000)) = true then (match xs[i.toNat]? with | some y => some (y, D.lst (xs.eraseIdx i.toNat)) | none => none) else none) = some (v, d') := hf
        split at hf
        · rename_i hc
          simp only [Bool.and_eq_true,
              decide_eq_true_eq] at hc
          cases hx : xs[i.toNat]? with
          | none => rw [hx] at hf; cases hf
          | some y =>
            rw [hx] at hf
            cases hf
            obtain ⟨w, hw, rw'⟩ := h2.get hx
            exact ⟨a, ys, i, i.toNat, w, rfl, rfl, h1, by omega, by omega, by rw [h2.length]; exact seqIndex_of hc.1.1 hc.1.2, hw, q w _ rw' ⟨_, upd_same, h2.erase _⟩⟩
        · cases hf
      | _ => cases hf
    | _ => cases hf
theorem mutd_reverse : MutD G rReverse reverseM := by
  intro F H d d' v es vs a Q ho hF hr hf q
  cases es with
  | cons e es => cases d <;> cases hf
  | nil =>
    cases d with
    | lst xs =>
      obtain ⟨ys, h1, h2⟩ := ho
      cases hf
      refine ⟨a, ys, rfl, hr, h1, q .non _ rfl ⟨_, upd_same, ?_⟩⟩
      refine h2.pick (by rw [List.length_reverse, List.length_reverse, h2.length]) (fun j => xs.length - 1 - j) (fun i d e => ?_) (fun i d e => ?_)
      · have hi : i < xs.length := by simpa using len_get e
        rw [List.getElem?_reverse hi] at e
        exact e
      · have hi : i < ys.length := by simpa using len_get e
        rw [List.getElem?_reverse hi, h2.length] at e
        exact e
    | _ => cases hf
theorem mut_tr {i : Nat} {f : D → List D → Option (D × D)} {r : V → List V → Hp → VK → Prop} {t : As} (hr : MutD G r f) (σ : L2.St) (H : Hp) (Q : VK) (hq : rd G W (eMut f i t) σ H Q) :
    tVar i σ H fun x H1 => tyV X.K "list" x H1 ∧ rdA G W t σ H1 fun xs H2 => r x xs H2 Q := by
  obtain ⟨P, F, Γ, env, h⟩ := hq
  have h : EPost G W P F σ Q (eMut f i t Γ) := h
  unfold eMut at h
  cases hs : Γ[i]? with
  | none => rw [hs] at h; exact h.elim
  | some s =>
    rw [hs] at h
    cases s with
    | no => exact h.elim
    | sh d => exact h.elim
    | ex c fs => exact h.elim
    | ow d0 =>
      obtain ⟨a, h1, h2, h3, h4⟩ := env.slot i _ hs
      cases d0 with
      | lst ds0 =>
      refine ⟨.ref a, h1, .inl ⟨rfl, ?_⟩, ?_⟩
      · obtain ⟨xs, k1, _⟩ := h4; exact ⟨xs, SqL.of k1⟩
      · refine rdA_bind env h fun os Γ1 vs F1 H1 e1 env1 ho q1 => ?_
        cases hg : strsD os with
        | none => simp only [hg] at q1; exact q1.elim
        | some ds =>
          cases hs1 : Γ1[i]? with
          | none => simp only [hg, hs1] at q1; exact q1.elim
          | some s1 =>
            simp only [hg, hs1] at q1
            cases s1 with
            | no => exact q1.elim
            | sh d => exact q1.elim
            | ex c fs => exact q1.elim
            | ow d1 =>
              obtain ⟨a', g1, g2, g3, g4⟩ := env1.slot i _ hs1
              rw [h1] at g1
              cases g1
              cases hf : f d1 ds with
              | none => simp only [hf] at q1; exact q1.elim
              | some z =>
                obtain ⟨v, d'⟩ := z
                simp only [hf] at q1
                refine hr g4 g3 (ho.strong hg) hf fun v' u rv ho' => ?_
                exact q1 v' F1 _ (Ext.refl _ _) (env1.mut hs1 h1 ho') rv
      | _ => exact h.elim
theorem de_append {x : Str} {px : Pos} {t : As} (i : Nat) (ha : PA X (e :: es) (rdA G W t)) (hv : PE X (.Name x px) (tVar i)) (hbase : attributeBase (.Name x px) "append" X.env (eval (.Name x px) X.env) = eval (.Name x px) X.env := by rfl)
    (hfew : ((backTo cpos (starEach (e :: es) X.env)).all (fun x =>
        !x.1) && (backToKw cpos (keywordEach [] X.env)).all (fun x => x.1.isSome)
      && decide ((e :: es).length + ([] : List Keyword).length + (if ([]
          : List Keyword).isEmpty then 0 else 1) < 30)) = true := by rfl)
    (hline : (apos.endLine == cpos.line) = true := by rfl) (hs : starEach (e :: es) X.env = (false,
        eval e X.env) :: starEach es X.env := by rfl) (hplain : (backTo cpos (starEach es X.env)).any (·.1) = false := by rfl) :
    PE X (.Call (.Attribute (.Name x px) "append" apos) (e :: es) [] cpos) (rd G W (eMut appendM i t)) :=
  PE_imp (pe_bm PySem.F.plainAttrs_list PySem.F.slot_list_append PySem.F.type_list_append mt_append hv ha hbase hfew hline hs hplain) (mut_tr mutd_append)
theorem de_popAt {x : Str} {px : Pos} {t : As} (i : Nat) (ha : PA X (e :: es) (rdA G W t)) (hv : PE X (.Name x px) (tVar i)) (hbase : attributeBase (.Name x px) "pop" X.env (eval (.Name x px) X.env) = eval (.Name x px) X.env := by rfl)
    (hfew : ((backTo cpos (starEach (e :: es) X.env)).all (fun x =>
        !x.1) && (backToKw cpos (keywordEach [] X.env)).all (fun x => x.1.isSome)
      && decide ((e :: es).length + ([] : List Keyword).length + (if ([]
          : List Keyword).isEmpty then 0 else 1) < 30)) = true := by rfl)
    (hline : (apos.endLine == cpos.line) = true := by rfl) (hs : starEach (e :: es) X.env = (false,
        eval e X.env) :: starEach es X.env := by rfl) (hplain : (backTo cpos (starEach es X.env)).any (·.1) = false := by rfl) :
    PE X (.Call (.Attribute (.Name x px) "pop" apos) (e :: es) [] cpos) (rd G W (eMut popAtM i t)) :=
  PE_imp (pe_bm PySem.F.plainAttrs_list PySem.F.slot_list_pop PySem.F.type_list_pop mt_popAt hv ha hbase hfew hline hs hplain) (mut_tr mutd_popAt)
theorem mut0_tr {i : Nat} {f : D → List D → Option (D × D)} {r : V → List V → Hp → VK → Prop} (hr : MutD G r f) (σ : L2.St) (H : Hp) (Q : VK) (hq : rd G W (eMut f i aNil) σ H Q) :
    tVar i σ H fun x H1 => tyV X.K "list" x H1 ∧ r x [] H1 Q := by
  obtain ⟨v, h1, h2, P, F, Γ, env, h3⟩ := mut_tr (X := X) hr σ H Q hq
  exact ⟨v, h1, h2, h3 [] F H (Ext.refl _ _) env rfl⟩
theorem de_pop {x : Str} {px : Pos} (i : Nat) (hv : PE X (.Name x px) (tVar i)) (hbase : attributeBase (.Name x px) "pop" X.env (eval (.Name x px) X.env) = eval (.Name x px) X.env := by rfl) (hline : (apos.endLine == cpos.line) = true := by rfl) :
    PE X (.Call (.Attribute (.Name x px) "pop" apos) [] [] cpos) (rd G W (eMut pop0M i aNil)) :=
  PE_imp (pe_bm0 PySem.F.plainAttrs_list PySem.F.slot_list_pop PySem.F.type_list_pop mt_pop hv hbase hline) (mut0_tr mutd_pop)
theorem de_reverse {x : Str} {px : Pos} (i : Nat) (hv : PE X (.Name x px) (tVar i)) (hbase : attributeBase (.Name x px) "reverse" X.env (eval (.Name x px) X.env) = eval (.Name x px) X.env := by rfl) (hline : (apos.endLine == cpos.line) = true := by rfl) :
    PE X (.Call (.Attribute (.Name x px) "reverse" apos) [] [] cpos) (rd G W (eMut reverseM i aNil)) :=
  PE_imp (pe_bm0 PySem.F.plainAttrs_list PySem.F.slot_list_reverse PySem.F.type_list_reverse mt_reverse hv hbase hline) (mut0_tr mutd_reverse)

/-! ### tuple.index -/
theorem index_shape {xs ds : List D} {z : Opd} (h : indexM xs ds = some z) : ∃ y, ds = [y] ∧ flat y = true ∧ xs.all flat = true ∧ ∃ j, findD y 0 xs = some j ∧ z = .val (.int (j : Nat)) := by
  unfold indexM at h
  split at h
  · rename_i y
    split at h
    · rename_i hc
      rw [Bool.and_eq_true] at hc
      cases hf : findD y 0 xs with
      | none =>
          rw [hf] at h; cases h
      | some j =>
        rw [hf] at h
        cases h
        exact ⟨y, rfl, hc.1, hc.2, j, hf, rfl⟩
    · cases h
  · cases h
theorem de_tupIndex {t : As} (ok : Ok G X) (ha : PE X a (rd G W da)) (ht : PA X (e :: es) (rdA G W t)) (hbase : attributeBase a "index" X.env (eval a X.env) = eval a X.env := by rfl)
    (hfew : ((backTo cpos (starEach (e :: es) X.env)).all (fun x =>
        !x.1) && (backToKw cpos (keywordEach [] X.env)).all (fun x => x.1.isSome)
      && decide ((e :: es).length + ([] : List Keyword).length + (if ([]
          : List Keyword).isEmpty then 0 else 1) < 30)) = true := by rfl)
    (hline : (apos.endLine == cpos.line) = true := by rfl) (hs : starEach (e :: es) X.env = (false,
        eval e X.env) :: starEach es X.env := by rfl) (hplain : (backTo cpos (starEach es X.env)).any (·.1) = false := by rfl) :
    PE X (.Call (.Attribute a "index" apos) (e :: es) [] cpos) (rd G W (eMtT indexM da t)) := by
  refine PE_imp (pe_mG tyok_tup PySem.F.plainAttrs_tuple PySem.F.slot_tuple_index PySem.F.type_tuple_index mt_tupIndex ha ht hbase hfew hline hs hplain) fun σ H Q hq => ?_
  obtain ⟨P, F, Γ, env, h⟩ := hq
  refine rd_bind env h fun o1 Γ1 v1 F1 H1 e1 env1 ho1 h1 => ?_
  cases hx : o1.str with
  | none => simp only [hx] at h1; exact h1.elim
  | some dx =>
    obtain ⟨F2, e2, env2, r2⟩ := OpdOk.strong env1 ho1 hx
    simp only [hx] at h1
    cases dx with
    | tup xs =>
      simp only at h1
      obtain ⟨ad, ys, rfl, hT, hR⟩ := r2
      refine ⟨⟨ad, ys, rfl, by rw [← ok.K]; exact hT.mono env2.fh⟩, ?_⟩
      refine rdA_bind env2 (EPost.ext e2 h1) fun os Γ2 vs F3 H3 e3 env3 ho3 h3 => ?_
      cases hg : gets Γ2 os with
      | none => simp only [hg] at h3; exact h3.elim
      | some ds =>
        simp only [hg] at h3
        have hw := ho3.reads env3 hg
        cases hi : indexM xs ds with
        | none => rw [hi] at h3; exact h3.elim
        | some z =>
          rw [hi] at h3
          obtain ⟨y, rfl, c1, c2, j, hf, rfl⟩ := index_shape hi
          obtain ⟨vy, rfl, hwy⟩ := hw.one
          have hR3 := hR.mono e3.sub
          obtain ⟨k1, k2, z, k3, k4, k5⟩ := find_rep c1 c2 hR3 (hwy.flat c1) hf
          exact ⟨ad, ys, vy, j, z, rfl, rfl, by rw [← ok.K]; exact (hT.mono (e3.sub.trans env3.fh)).sq, k1, k2, k3, k4, k5, Go.val env3 h3 rfl⟩
    | _ => exact h1.elim
end
end DP

/-! DpTests: truth values, tests. -/
namespace DP
open PySem PySem.Spec
    PyProof.Rows L2

section
variable {G : Gx} {W : WX} {X : Cx} {a b c e o : Expr} {es rest : List Expr} {pos p apos cpos p2 : Pos} {da db dc : E} {ta tb tc : T}

/-- a truth value that a part gives -/
theorem bool_val {P F H : Hp} {σ : L2.St} {Γ : Env} {v : V} {k : Bool} (h : OpdOk G P F H σ Γ (.val (.bl k)) v) : v = .bl k := h
theorem de_one {op : _} (h : PE X a (rd G W da)) : PE X (.BoolOp op [a] pos) (rd G W da) := pe_one h
theorem de_and (ha : PE X a (rd G W da)) (hb : PE X (.BoolOp .And (b :: rest) pos) (rd G W db)) : PE X (.BoolOp .And (a :: b :: rest) pos) (rd G W (eAnd da db)) := by
  refine PE_imp (pe_and ha hb) fun σ H Q hq => ?_
  obtain ⟨P, F, Γ, env, h⟩ := hq
  refine rd_bind env h fun o1 Γ1 v1 F1 H1 e1 env1 ho1 h1 => ?_
  cases o1 with
  | fresh d => exact h1.elim
  | own i => exact h1.elim
  | val d =>
    cases d with
    | bl k =>
      refine ⟨k, ho1, ?_⟩
      cases k with
      | true => exact ⟨P, F1, Γ1, env1, h1⟩
      | false => exact Go.val env1 h1 rfl
    | _ => exact h1.elim
theorem de_or (ha : PE X a (rd G W da)) (hb : PE X (.BoolOp .Or (b :: rest) pos) (rd G W db)) : PE X (.BoolOp .Or (a :: b :: rest) pos) (rd G W (eOr da db)) := by
  refine PE_imp (pe_or ha hb) fun σ H Q hq => ?_
  obtain ⟨P, F, Γ, env, h⟩ := hq
  refine rd_bind env h fun o1 Γ1 v1 F1 H1 e1 env1 ho1 h1 => ?_
  cases o1 with
  | fresh d => exact h1.elim
  | own i => exact h1.elim
  | val d =>
    cases d with
    | bl k =>
      refine ⟨k, ho1, ?_⟩
      cases k with
      | true => exact Go.val env1 h1 rfl
      | false => exact ⟨P, F1, Γ1, env1, h1⟩
    | _ => exact h1.elim
theorem de_not (ha : PE X a (rd G W da)) : PE X (.UnaryOp .Not a pos) (rd G W (eNot da)) := by
  refine PE_imp (pe_not ha) fun σ H Q hq => ?_
  obtain ⟨P, F, Γ, env, h⟩ := hq
  refine rd_bind env h fun o1 Γ1 v1 F1 H1 e1 env1 ho1 h1 => ?_
  cases o1 with
  | fresh d => exact h1.elim
  | own i => exact h1.elim
  | val d =>
    cases d with
    | bl k => exact ⟨k, ho1, Go.val env1 h1 rfl⟩
    | _ => exact h1.elim
theorem de_if (hc : PT X c (rdT G W tc)) (ha : PE X a (rd G W da)) (hb : PE X b (rd G W db)) : PE X (.IfExp c a b pos) (rd G W (eIf tc da db)) := by
  refine PE_imp (pe_ifExp hc ha hb) fun σ H Q hq => ?_
  obtain ⟨P, F, Γ, env, h⟩ := hq
  refine rdT_bind (Post := fun F r => EPost G W P F σ Q r) env h (fun z => z) (fun _ _ _ z => z) (fun _ _ e z => z.ext e) fun k Γ1 F1 H1 e1 env1 h1 => ?_
  cases k with
  | true => exact ⟨P, F1, Γ1, env1, h1⟩
  | false => exact ⟨P, F1, Γ1, env1, h1⟩

/-! ### tests -/
theorem dt_e (ha : PE X a (rd G W da)) (he : ∀ whole, isTrue a X.env whole = (do let v ← whole; standAt a.pos; holding [v] (truthy v)) := by intro _; rfl) : PT X a (rdT G W (tE da)) := by
  refine PT_imp (pt_val ha he) fun σ H Q hq => ?_
  obtain ⟨P, F, Γ, env, h⟩ := hq
  have h : TPost G W P F σ Q (tE da Γ) := h
  refine rd_bindG (Post := fun F r => TPost G W P F σ Q r) env h (fun z => z) (fun _ _ _ z => z) (fun _ _ e z => z.ext e) fun o1 Γ1 v1 F1 H1 e1 env1 ho1 h1 => ?_
  cases o1 with
  | fresh d => exact h1.elim
  | own i => exact h1.elim
  | val d =>
    cases d with
    | bl k => exact ⟨k, ho1, h1 F1 H1 (Ext.refl _ _) env1⟩
    | _ => exact h1.elim
/-- a comparison as a test -/
theorem cmpt_tr {r : R2} {f : D → D → Option Opd} (hr : ∀ {P F H : Hp} {σ : L2.St} {Γ : Env} {dx dy : D} {x y : V} {o : Opd} {Q : VK}, EnvOk G P F H σ Γ → WRep G F H dx x → WRep G F H dy y → f dx dy = some o → Go G P F σ Γ o Q → r x y H Q)
    (σ : L2.St) (H : Hp) (Q : Bool → Hp → Prop) (hq : rdT G W (tE (eBin f da db)) σ H Q) : tTest (tOp r (rd G W da) (rd G W db)) σ H Q := by
  obtain ⟨P, F, Γ, env, h⟩ := hq
  have h : TPost G W P F σ Q (tE (eBin f da db) Γ) := h
  refine bin_tr hr σ H _ ?_
  refine rd_bindG (Post := fun F r => TPost G W P F σ Q r) env h (fun z => z) (fun _ _ _ z => z) (fun _ _ e z => z.ext e) fun o1 Γ1 v1 F1 H1 e1 env1 ho1 h1 => ?_
  cases o1 with
  | fresh d => exact h1.elim
  | own i => exact h1.elim
  | val d =>
    cases d with
    | bl k => exact ⟨k, ho1, h1 F1 H1 (Ext.refl _ _) env1⟩
    | _ => exact h1.elim
theorem dt_cmp {op : CmpOp} {f : D → D → Option Opd} (ho : OpD G X (compareOp op) f) (ha : PE X a (rd G W da)) (hb : PE X b (rd G W db)) (hm : behindInMarks op b = false := by first | exact nomark _ | rfl) : PT X (.Compare a [op] [b] pos) (rdT G W (tE (eBin f da db))) := by
  obtain ⟨r, h1, h2⟩ := ho
  exact PT_imp (pt_cmpR h1 ha hb hm) (cmpt_tr h2)
theorem un_test {f : D → Option Opd} {g : V → Bool} (hg : ∀ {F H : Hp} {dx : D} {x : V} {o : Opd}, WRep G F H dx x → f dx = some o → o = .val (.bl (g x))) (σ : L2.St) (H : Hp) (Q : Bool → Hp → Prop) (hq : rdT G W (tE (eUn f da)) σ H Q) :
    rd G W da σ H fun x H1 => Q (g x) H1 := by
  obtain ⟨P, F, Γ, env, h⟩ := hq
  have h : TPost G W P F σ Q ((((da Γ).bind fun x Γ1 => match x.get Γ1 with | some dx => opt (f dx) Γ1 | none => .stuck)).bind fun x Γ1 => match x with | .val (.bl k) => .ok k Γ1 | _ => .stuck) := h
  refine ⟨P, F, Γ, env, ?_⟩
  cases he : da Γ with
  | exc c fs Γ1 => rw [he] at h; exact h
  | stuck => rw [he] at h; exact h.elim
  | ok o1 Γ1 =>
    rw [he] at h
    intro v F1 H1 e1 env1 ho1
    dsimp only [R.bind] at h
    cases hx : o1.get Γ1 with
    | none => simp only [hx] at h; exact h.elim
    | some dx =>
      simp only [hx] at h
      cases hf : f dx with
      | none => rw [hf] at h; exact h.elim
      | some z =>
        rw [hf] at h
        have hz := hg (OpdOk.read env1 ho1 hx) hf
        subst hz
        exact h F1 H1 e1 env1
theorem dt_isN {j : _} {p' : Pos} (ha : PE X a (rd G W da)) : PT X (.Compare a [.Is] [.Constant .none j p'] pos) (rdT G W (tE (eUn isNF da))) := by
  refine PT_imp (pt_cmp (pc_isN ha) rfl) fun σ H Q hq => ?_
  have h := un_test (g := fun x => decide (x = .non)) (fun hw hf => by cases hf; rw [wrep_isNon hw]) σ H Q hq
  obtain ⟨P, F, Γ, env, h⟩ := h
  refine ⟨P, F, Γ, env, ?_⟩
  cases he : da Γ with
  | exc c fs Γ1 => rw [he] at h; exact h
  | stuck => rw [he] at h; exact h
  | ok o1 Γ1 =>
    rw [he] at h
    exact fun v F1 H1 e1 env1 ho1 => ⟨_, rfl, h v F1 H1 e1 env1 ho1⟩
theorem dt_notN {j : _} {p' : Pos} (ha : PE X a (rd G W da)) : PT X (.Compare a [.IsNot] [.Constant .none j p'] pos) (rdT G W (tE (eUn isNotNF da))) := by
  refine PT_imp (pt_cmp (pc_notN ha) rfl) fun σ H Q hq => ?_
  have h := un_test (g := fun x => !decide (x = .non)) (fun hw hf => by cases hf; rw [wrep_isNon hw]) σ H Q hq
  obtain ⟨P, F, Γ, env, h⟩ := h
  refine ⟨P, F, Γ, env, ?_⟩
  cases he : da Γ with
  | exc c fs Γ1 => rw [he] at h; exact h
  | stuck => rw [he] at h; exact h
  | ok o1 Γ1 =>
    rw [he] at h
    exact fun v F1 H1 e1 env1 ho1 => ⟨_, rfl, h v F1 H1 e1 env1 ho1⟩
theorem and_tr (σ : L2.St) (H : Hp) (Q : Bool → Hp → Prop) (hq : rdT G W (tAnd ta tb) σ H Q) : L2.tAnd (rdT G W ta) (rdT G W tb) σ H Q := by
  obtain ⟨P, F, Γ, env, h⟩ := hq
  have h : TPost G W P F σ Q (tAnd ta tb Γ) := h
  refine rdT_bind (Post := fun F r => TPost G W P F σ Q r) env h (fun z => z) (fun _ _ _ z => z) (fun _ _ e z => z.ext e) fun k Γ1 F1 H1 e1 env1 h1 => ?_
  cases k with
  | true => exact ⟨P, F1, Γ1, env1, h1⟩
  | false => exact h1 F1 H1 (Ext.refl _ _) env1
theorem or_tr (σ : L2.St) (H : Hp) (Q : Bool → Hp → Prop) (hq : rdT G W (tOr ta tb) σ H Q) : L2.tOr (rdT G W ta) (rdT G W tb) σ H Q := by
  obtain ⟨P, F, Γ, env, h⟩ := hq
  have h : TPost G W P F σ Q (tOr ta tb Γ) := h
  refine rdT_bind (Post := fun F r => TPost G W P F σ Q r) env h (fun z => z) (fun _ _ _ z => z) (fun _ _ e z => z.ext e) fun k Γ1 F1 H1 e1 env1 h1 => ?_
  cases k with
  | true => exact h1 F1 H1 (Ext.refl _ _) env1
  | false => exact ⟨P, F1, Γ1, env1, h1⟩
theorem PW_imp {t t' : TT} (h : PW X e t) (f : ∀ σ H Q, t' σ H Q → t σ H Q) : PW X e t' := ⟨fun whole pins s σ H Q I hq => h.run whole pins s σ H Q I (f σ H Q hq)⟩
theorem dw_and1 (ha : PT X a (rdT G W ta)) : PW X (.BoolOp .And [a] pos) (rdT G W ta) := pw_and1 ha
theorem dw_or1 (ha : PT X a (rdT G W ta)) : PW X (.BoolOp .Or [a] pos) (rdT G W ta) := pw_or1 ha
theorem dw_and (ha : PT X a (rdT G W ta)) (hb : PW X (.BoolOp .And (b :: rest) pos) (rdT G W tb)) : PW X (.BoolOp .And (a :: b :: rest) pos) (rdT G W (tAnd ta tb)) := PW_imp (pw_and ha hb) and_tr
theorem dw_or (ha : PT X a (rdT G W ta)) (hb : PW X (.BoolOp .Or (b :: rest) pos) (rdT G W tb)) : PW X (.BoolOp .Or (a :: b :: rest) pos) (rdT G W (tOr ta tb)) := PW_imp (pw_or ha hb) or_tr
theorem dt_not (ha : PT X a (rdT G W ta)) : PT X (.UnaryOp .Not a pos) (rdT G W (tNot ta)) := by
  refine PT_imp (pt_not ha) fun σ H Q hq => ?_
  obtain ⟨P, F, Γ, env, h⟩ := hq
  have h : TPost G W P F σ Q (tNot ta Γ) := h
  refine rdT_bind (Post := fun F r => TPost G W P F σ Q r) env h (fun z => z) (fun _ _ _ z => z) (fun _ _ e z => z.ext e) fun k Γ1 F1 H1 e1 env1 h1 => ?_
  exact h1 F1 H1 (Ext.refl _ _) env1
theorem truth_rep {F H : Hp} {d : D} {v : V} {k : Bool} (ok : Ok G X) (fh : Same F H) (h : WRep G F H d v) (e : truth d = some k) (hs : ∀ s, d = .str s → s.length ≤ sizeLine) : TruV X.K v H k := by
  cases d with
  | non => cases e; rw [h.non]; rfl
  | bl b => cases e; rw [h.bl]; rfl
  | int i => cases e; rw [h.int]; rfl
  | str s =>
    have e : (if s.length ≤ 1000000 then some (s.length != 0) else none) = some k := e
    rw [if_pos (by
      split at e
      · assumption
      · cases e)] at e
    cases e
    rw [h.str]
    refine ⟨hs s rfl, ?_⟩
    cases hl : s.length with
    | zero => rfl
    | succ n =>
      show (n + 1 != 0) = (((n + 1 : Nat) : Int) != 0)
      rw [show (n + 1 != 0) = true by simp]
      symm
      simp
      omega
  | tup xs => cases e; obtain ⟨a, ys, rfl, h1, _, h2⟩ := h.tup fh; exact .inr (.inl ⟨ys, by rw [← ok.K]; exact h1, by cases xs <;> cases ys <;> first | rfl | (have := h2.length; simp at this)⟩)
  | lst xs => cases e; obtain ⟨a, ys, rfl, h1, h2⟩ := h.lst fh; exact .inl ⟨ys, SqL.of h1, by cases xs <;> cases ys <;> first | rfl | (have := h2.length; simp at this)⟩
  | scr xs => cases e
  | dK k => cases e
  | dT k => cases e
  | ins c fs => cases e
theorem dt_tru (ok : Ok G X) (ha : PE X a (rd G W da)) (he : ∀ whole, isTrue a X.env whole = (do let v ← whole; standAt a.pos; holding [v] (truthy v)) := by intro _; rfl) : PT X a (rdT G W (tTru da)) := by
  refine PT_imp (pt_truth ha he) fun σ H Q hq => ?_
  obtain ⟨P, F, Γ, env, h⟩ := hq
  have h : TPost G W P F σ Q (tTru da Γ) := h
  refine rd_bindG (Post := fun F r => TPost G W P F σ Q r) env h (fun z => z) (fun _ _ _ z => z) (fun _ _ e z => z.ext e) fun o1 Γ1 v1 F1 H1 e1 env1 ho1 h1 => ?_
  cases hx : o1.get Γ1 with
  | none => simp only [hx] at h1; exact h1.elim
  | some d =>
    simp only [hx] at h1
    cases ht : truth d with
    | none => rw [ht] at h1; exact h1.elim
    | some k =>
      rw [ht] at h1
      refine ⟨k, truth_rep ok env1.fh (OpdOk.read env1 ho1 hx) ht (fun s hs => ?_), h1 F1 H1 (Ext.refl _ _) env1⟩
      subst hs
      have h2 : (if s.length ≤ 1000000 then some (s.length != 0) else none) = some k := ht
      split at h2
      · rename_i hl; exact line_le hl
      · cases h2
end
end DP

/-! DpEnum: enumerate(t), t a tuple. -/
namespace DP
open PySem PySem.Spec
    PyProof.Rows L2

set_option
    maxHeartbeats 1000000 in
theorem meets_enum1 {v : Value} {ob : Obj} {Hq : Heap → Prop} (B : Begins v ob Hq) :
    Meets (Builtin.«enumerate.__new__» ⟨[.type "enumerate", v], []⟩) (fun _ R s => Hq s.heap ∧
      R (.ok (.ret (.ref (s.heap.push ob).objs.size))) { s with heap := (s.heap.push ob).push { cls := .type "enumerate", data := .fields #[.none, .bool false, .ref s.heap.objs.size, rawInt 0, .none, .none] } }) :=
  .of_wp fun prog w A R s hyp => by
    obtain ⟨hp, gn, dr, tk, os⟩ := s
    obtain ⟨k1, k2⟩ := hyp
    have hsub := sub_enumerate
    have qi : ∀ {A' : Around} {E' : Value → Shared → Prop} {Q' : Value → Shared → Prop}, Q' (.ref hp.objs.size) ⟨hp.push ob, gn, dr, tk, os⟩ → wpAny (model prog w) A' (pyIter v) Q' E' ⟨hp, gn, dr, tk, os⟩ :=
      fun z => B.iter prog w _ _ ⟨hp, gn, dr, tk, os⟩ _ k1 z
    wp_walk using qi
    refine wpAny_stack_any fun st =>
        wpAny_pure ?_
    split
    · rename_i c _ _ _ _ _
      cases (c == Value.type
          "enumerate")
      · wp_walk using qi
        exact ⟨_, rfl, k2⟩
      · wp_walk using qi
        exact ⟨_, rfl, k2⟩
    · wp_walk using qi
      exact ⟨_, rfl, k2⟩
theorem call_enum1 {prog : Program} {w : World} {A : Around} {E : Value → Shared → Prop} {s : Shared} {v : Value} {ob : Obj} {Hq : Heap → Prop} {Q : Value → Shared → Prop} (B : Begins v ob Hq) (h1 : Hq s.heap)
    (h : ∀ h', IsEnum h' (s.heap.objs.size + 1) s.heap.objs.size 0 .none → h'.get? s.heap.objs.size = some ob → h'.objs.size = s.heap.objs.size + 2 →
      (∀ b o,
          s.heap.get? b = some o → h'.get? b = some o) → Q (.ref (s.heap.objs.size + 1)) { s with heap := h' }) :
    wpAny (model prog w) A (call (.type "enumerate") [v]) Q E s := by
  refine callType_new F.called_enumerate (by decide) (F.typeCall_enumerate_1 _) (F.newCall_enumerate_1 _) (fun z => F.args_object_init_2 z _) F.entry_enumerate_new (meets_enum1 B) ⟨h1, ?_⟩
  have hz : (s.heap.push ob).objs.size = s.heap.objs.size + 1 := Heap.size_push ..
  show _ ∧ _
  rw [hz]
  have he : IsEnum ((s.heap.push ob).push { cls := .type "enumerate", data := .fields #[.none, .bool false, .ref s.heap.objs.size, rawInt 0, .none, .none] }) (s.heap.objs.size + 1) s.heap.objs.size 0 .none := by
    have q := Heap.get?_push_size (s.heap.push ob) (o := { cls := .type "enumerate", data := .fields #[.none, .bool false, .ref s.heap.objs.size, rawInt 0, .none, .none] }) rfl
    rw [hz] at q
    exact q
  exact ⟨⟨_, he, rfl⟩, h _ he (Heap.get?_push_of_some _ (Heap.get?_push_size _ B.free)) (by rw [Heap.size_push, hz]) fun b u x => Heap.get?_push_of_some _ (Heap.get?_push_of_some _ x)⟩

/-- the tuple at a, each item in a new pair -/
def IteT (K : PySem.W.Frag) (a : Addr) : L2.It :=
  ⟨fun i H => ∃ (xs : List V) (x : V), SqT K H a xs ∧ xs[i]? = some x, fun i H v H' => ∃ T x, v = .ref T ∧ H T = none ∧ H' = upd H T (.tup [.int (i : Nat), x]) ∧ ∀ xs, SqT K H a xs → xs[i]? = some x, fun i H => ∃ xs : List V, SqT K H a xs ∧ xs.length = i⟩
theorem enum_ne {h : Heap} {e it a : Addr} {i : Int} {old : Value} {items : Array Value} (he : IsEnum h e it i old) (ht : IsTup h a items) : e ≠ a := by
  intro z
  subst z
  obtain ⟨o, h1, h2, _⟩ := ht
  have he' : h.get? e = some _ := he
  rw [he'] at h1
  cases h1
  have h3 : Value.type "enumerate" = Value.type "tuple" := h2
  injection h3 with h4
  exact absurd h4 (by decide)
theorem turn_enumT {P : Program} {w : World} {K : PySem.W.Frag} {elts : List Expr} {kk : Nat} {tpos : Pos} (a e it : Addr) :
    Turn P w K (.Tuple elts kk tpos) (IteT K a) [e, it] e (fun i h => (∃ old, IsEnum h e it ((i : Nat) : Int) old) ∧ h.IsTupleIter it a i ∧ e ≠ it ∧ a ≠ it) where
  mem := by simp
  obj := fun i h st b hb => by
    obtain ⟨⟨old, he⟩, ⟨o,
        ho, hc, hd⟩, _⟩ := st
    rcases (show b = e ∨ b = it by simpa using hb) with z | z
    · subst z; exact ⟨_, he, fun v q => nomatch q⟩
    · subst z; exact ⟨o, ho, fun v q => by rw [hd] at q; cases q⟩
  keep := fun i h h' st k => let ⟨⟨old, he⟩, hi, hne⟩ := st; ⟨⟨old,
      k e (by simp) _ he⟩, hi.at fun o q => k it (by simp) o q, hne⟩
  item := by
    intro X hP hw hK hc i pn sh τ Hh E Iv hf st hg
    subst hP hw hK
    obtain ⟨⟨old, he⟩, hit, hne, hna⟩ := st
    obtain ⟨xs, x, hq, hx⟩ := hg
    obtain ⟨us, rv, pt, hz⟩ := Iv.tuple hq
    obtain ⟨u, hu,
        ru⟩ := rv.get hx
    have hel : e < sh.heap.objs.size := Heap.lt_size he
    have hil : it < sh.heap.objs.size := by obtain ⟨_, q, _⟩ := hit; exact Heap.lt_size q
    have hea : e ≠ a := enum_ne he pt
    have hi : i < us.toArray.size := by rw [List.size_toArray]; exact (List.getElem?_eq_some_iff.mp hu).1
    refine wpAny_pyNext_enum_itemD (Draws.tuple (A := X.A.in1) (Iv.ok.hd hc) it a hna us.toArray) he ⟨hit, pt⟩ hi hne (by simp [hne, hea]) fun y h1 tk hy ho hst hT hsz hk => ?_
    have ey : y = u := by
      have e1 : us.toArray[i]? = some y := hy
      rw [List.getElem?_toArray, hu] at e1
      cases e1
      rfl
    subst ey
    refine ⟨_, rfl, wpAny_letOwnedTupleGo_enum (s := { sh with heap := h1, toks := tk + 1 }) ho fun h2 he' sb => ?_⟩
    have hT2 : h2.get? sh.heap.objs.size = some { cls := .type "tuple", data := .seq #[.int i tk, y] } := (sb.2 _ (Nat.ne_of_gt hel)).trans hT
    have new : ObjOk X.prog X.w (upd Hh sh.heap.objs.size (.tup [.int (i : Nat), x])) h2 sh.heap.objs.size (.tup [.int (i : Nat), x]) :=
      ⟨by show 2 ≤ sizeLine; decide, [.int i tk, y], .cons ⟨_, rfl⟩ (.cons ru .nil), ⟨_, hT2, rfl, _, rfl⟩⟩
    have I1 : Inv X pn τ (upd Hh sh.heap.objs.size (.tup [.int (i : Nat), x])) { sh with heap := h2, toks := tk + 1 } :=
      Iv.turnedNew (ch := [e, it]) (fun b ob hb q => (sb.2 b (fun z => hb (by simp [z]))).trans (hk b ob (fun z => hb (by simp [z])) (fun z => hb (by simp [z])) q)) hf (Nat.le_refl _) new
    refine ⟨.ref sh.heap.objs.size, _, I1, rfl, ⟨_, x, rfl, Iv.hok.fresh (Nat.le_refl _), rfl, fun ys hy => by rw [Iv.tuple_inj hy hq]; exact hx⟩, ⟨⟨y, ?_⟩, hst.1.at fun o q => (sb.2 it (Ne.symm hne)).trans q, hne, hna⟩, fun b hb => ?_⟩
    · have e1 : ((i + 1 : Nat) : Int)
        = (i : Int) + 1 := by omega
      rw [e1]
      exact he'
    · have hb' : b < sh.heap.objs.size := by
        rcases (show b = e ∨ b = it by simpa using hb) with z | z
        · subst z; exact hel
        · subst z; exact hil
      rw [upd_ne
          (Nat.ne_of_lt hb')]
      exact (hf b hb).1
  done := by
    intro X hP hw hK hc i pn sh τ Hh E Iv hf st hg
    subst hP hw hK
    obtain ⟨⟨old, he⟩, hit, hne, hna⟩ := st
    obtain ⟨xs, hq, hx⟩ := hg
    obtain ⟨us, rv, pt, hz⟩ := Iv.tuple hq
    have hn : us.toArray.size = i := by rw [List.size_toArray, ← rv.length]; exact hx
    refine wpAny_pyNext_enum_endD (Draws.tuple (A := X.A.in1) (Iv.ok.hd hc) it a hna us.toArray) he ⟨hn ▸ hit, pt⟩ fun h1 hk => ⟨rfl, ?_⟩
    exact Iv.turned (it := it) (t' := sh.toks) (fun b o hb q => hk b o hb q) (hf it (by simp)).1 (hf it (by simp)).2.1 (hf it (by simp)).2.2.2.1 (hf it (by simp)).2.2.2.2.1 (hf it (by simp)).2.2.2.2.2
  self :=
      fun A i s Q E st h => by
    obtain ⟨⟨old, he⟩, _⟩ := st
    exact wpAny_pyIter_enum he h
def iEnumT (K : PySem.W.Frag) (ta : TA) : TI := fun σ H R => ta σ H fun vs H1 => ∃ a xs, vs = [.ref a] ∧ SqT K H1 a xs ∧ R (IteT K a) H1
theorem pi_enumT {X : Cx} {e : Expr} {ta : TA} {p pos tpos : Pos} {elts : List Expr} {kk : Nat} (hg : Gl X "enumerate") (hm : X.mg "enumerate" = none) (ha : PA X [e] ta) (hs : starEach [e] X.env = [(false, eval e X.env)] := by rfl) :
    PI X (.Tuple elts kk tpos) (.Call (.Name "enumerate" p) [e] [] pos) (iEnumT X.K ta) := by
  refine ⟨fun pn sh τ Hh R Iv hyp => ?_⟩
  refine Call_ (ld_blt Iv hg hm boot_enumerate (PyProof.Rows.callWith_type1 (thn (ha.run pos pn sh τ Hh _ Iv hyp) fun us s1 ⟨vs, H1, I1, r1, q1⟩ => ?_) hs rfl))
  obtain ⟨a, xs,
      ex, hq, q⟩ := q1
  subst ex
  obtain ⟨u, rfl,
      ru⟩ := vals1 r1
  cases ru
  obtain ⟨ws, rv, pt, hz⟩ := I1.tuple hq
  have hal : a < s1.heap.objs.size := pt.lt
  refine call_enum1 (begins_tuple a ws.toArray) pt fun h' he hit hsz hk => wpAny_pyIter_enum he ?_
  have I2 : Inv X pn τ H1 { s1 with heap := h' } := I1.kept (t' := s1.toks) hk
  refine ⟨s1.heap.objs.size + 1, [s1.heap.objs.size + 1, s1.heap.objs.size], _, _, H1, rfl, I2, turn_enumT a (s1.heap.objs.size + 1) s1.heap.objs.size, ⟨⟨.none, he⟩, ⟨_, hit, rfl, rfl⟩, Nat.succ_ne_self _, Nat.ne_of_lt hal⟩, fun b hb => ?_, q⟩
  have hle : s1.heap.objs.size ≤ b :=
      by
    rcases (show b = s1.heap.objs.size + 1 ∨ b = s1.heap.objs.size by simpa using hb) with z | z
    · subst z; exact Nat.le_succ _
    · subst z; exact Nat.le_refl _
  exact I1.fpOk hle
      (I1.hok.fresh hle)
end DP

/-! DpStm: what is walked, targets, comprehensions, statements. -/
namespace DP
open PySem PySem.Spec
    PyProof.Rows L2

/-! ### what is walked -/
/-- what a turn yields: data, or (y) a new pair -/
def YOk (G : Gx) (F : Hp) (y : Bool) (d : D) (x : V) (H H' : Hp) : Prop :=
  (H' = H ∧ Rep G F d x) ∨ (y = true ∧ ∃ (T : Addr) (vs : List V) (ds : List D), x = .ref T ∧ H T = none ∧ H' = upd H T (.tup vs) ∧ d = .tup ds ∧ Reps G F ds vs)
structure JOk (G : Gx) (y : Bool) (F : Hp) (ds : List D) (J : L2.It) : Prop where
  go : ∀ i H, Same F H → i < ds.length → J.go i H
  stop : ∀ H, Same F H → J.stop ds.length H
  yld : ∀ (i : Nat) (H : Hp) (d : D) (x : V) (H' : Hp), Same F H → ds[i]? = some d → J.yld i H x H' → YOk G F y d x H H'
def IPost (G : Gx) (W : WX) (y : Bool) (P F : Hp) (σ : L2.St) (R : L2.It → Hp → Prop) : DP.R (List D) → Prop
  | .ok ds Γ' => ∀ J F' H', Ext P F F' → EnvOk G P F' H' σ Γ' → JOk G y F' ds J → R J H'
  | .exc c fs Γ' => GoX G W P F σ Γ' c fs
  | .stuck => False
/-- the walk wi walks what it tells -/
def TrI (G : Gx) (W : WX) (y : Bool) (wi : TI) (it : DP.It) : Prop := ∀ (σ : L2.St) (H : Hp) (R : L2.It → Hp → Prop), (∃ P F Γ, EnvOk G P F H σ Γ ∧ IPost G W y P F σ R (it Γ)) → wi σ H R
/-- a target -/
def XOk (G : Gx) (F H : Hp) (y : Bool) (d : D) (x : V) : Prop := Rep G F d x ∨ (y = true ∧ ∃ (T : Addr) (vs : List V) (ds : List D), x = .ref T ∧ H T = some (.tup vs) ∧ d = .tup ds ∧ Reps G F ds vs)
def TrG (G : Gx) (y : Bool) (g : TG) (tg : Tg) : Prop := ∀ (P F H : Hp) (σ : L2.St) (Γ Γ' : Env) (d : D) (x : V) (Q : L2.St → Hp → Prop), EnvOk G P F H σ Γ → XOk G F H y d x → tg d Γ = some Γ' → (∀ σ', EnvOk G P F H σ' Γ' → Q σ' H) → g x σ H Q
def TrGs (G : Gx) (t : TGs) (js : List Nat) : Prop := ∀ (P F H : Hp) (σ : L2.St) (Γ Γ' : Env) (ds : List D) (xs : List V) (Q : L2.St → Hp → Prop), EnvOk G P F H σ Γ → Reps G F ds xs → gs js ds Γ = some Γ' → (∀ σ', EnvOk G P F H σ' Γ' → Q σ' H) → t xs σ H Q

section
variable {G : Gx} {W : WX} {X : Cx} {a b c e o tg iter : Expr} {es rest : List Expr} {pos p apos cpos p2 : Pos} {da db dc : E}

theorem trg_name (i : Nat) (hz : G.me = none ∨ i ≠ 0 := by first | exact .inl rfl | exact .inr (by decide)) : TrG G false (gName i) (gN i) := fun P F H σ Γ Γ' d x Q env hx ht q => by
  cases ht
  rcases hx with hx | ⟨z, _⟩
  · exact q _ (env.setSh hx i (hz_of env hz))
  · cases z
theorem trgs_nil : TrGs G gNil [] := fun P F H σ Γ Γ' ds xs Q env hr ht q => by
  cases ds with
  | nil => cases ht; exact ⟨hr, q _ env⟩
  | cons d ds => cases ht
theorem trgs_cons {js : List Nat} {t : TGs} (i : Nat) (h : TrGs G t js) (hz : G.me = none ∨ i ≠ 0 := by first | exact .inl rfl | exact .inr (by decide)) : TrGs G (gCons (gName i) t) (i :: js) := fun P F H σ Γ Γ' ds xs Q env hr ht q => by
  cases ds with
  | nil => cases ht
  | cons d ds =>
    obtain ⟨v, r, rfl, h1, h2⟩ := hr
    exact ⟨v, r, rfl, h P F H _ _ Γ' ds r Q (env.setSh h1 i (hz_of env hz)) h2 ht q⟩
theorem gs_len : ∀ (js : List Nat) (ds : List D) (Γ Γ' : Env), gs js ds Γ = some Γ' → ds.length = js.length
  | [], [], _, _, _ => rfl
  | [], _ :: _, _, _, h => by cases h
  | _ :: _, [], _, _, h => by cases h
  | i :: r, d :: ds, Γ, Γ', h => congrArg (· + 1) (gs_len r ds _ Γ' h)
theorem trg_tup {js : List Nat} {t : TGs} {n : Nat} (y : Bool) (ok : Ok G X) (h : TrGs G t js) (hn : js.length = n := by rfl) : TrG G y (gTup X.K n t) (gT js) := fun P F H σ Γ Γ' d x Q env hx ht q => by
  cases d with
  | tup ds =>
    have hl := gs_len js ds Γ Γ' ht
    rcases hx with ⟨ad, ys, rfl, h1, h2⟩ | ⟨_, T, vs, ds', rfl, h1, e, h2⟩
    · exact ⟨ad, ys, rfl, by rw [← ok.K]; exact same_t env.fh h1.sq, by rw [h2.length, hl, hn], h P F H σ Γ Γ' ds ys Q env h2 ht q⟩
    · cases e
      exact ⟨T, vs, rfl, SqT.of h1, by rw [h2.length, hl, hn], h P F H σ Γ Γ' ds vs Q env h2 ht q⟩
  | _ => cases ht

/-- a list or a tuple walked -/
def iSeq (K : PySem.W.Frag) (tl : TE) : TI := fun σ H R => tl σ H fun x H1 => ∃ a, x = .ref a ∧ ((∃ xs, SqL K H1 a xs) ∧ R (Itl K a) H1 ∨ (∃ xs, SqT K H1 a xs) ∧ R (Itt K a) H1)
theorem pi_seq {l : Expr} {tl : TE} (hl : PE X l tl) : PI X tg l (iSeq X.K tl) := by
  refine ⟨fun pn sh τ Hh R Iv hyp => ?_⟩
  refine thn (hl.run pn sh τ Hh _ Iv hyp) fun v s1 ⟨x, H1, I1, r1, q1⟩ => ?_
  obtain ⟨ad, rfl, q1⟩ := q1
  cases r1
  have hnew : ∀ b ∈ [s1.heap.objs.size], FpOk X pn H1 b := fun b hb => by
    rw [List.mem_singleton.mp hb]
    exact I1.fpOk (Nat.le_refl _)
        (I1.hok.fresh (Nat.le_refl _))
  rcases q1 with ⟨⟨xs, hq⟩, q⟩ | ⟨⟨xs, hq⟩, q⟩
  · obtain ⟨us, rv, pl, hz⟩ := I1.list hq
    exact wpAny_pyIter_list pl.isList ⟨s1.heap.objs.size, [s1.heap.objs.size], _, _, H1, rfl, I1.kept (t' := s1.toks) fun b o e => Heap.get?_push_of_some _ e, turn_list ad _, ⟨_, Heap.get?_push_size _ rfl, rfl, rfl⟩, hnew, q⟩
  · obtain ⟨us, rv, pt, hz⟩ := I1.tuple hq
    exact wpAny_pyIter_tuple (show s1.heap.IsTuple ad us.toArray from pt) ⟨s1.heap.objs.size, [s1.heap.objs.size], _, _, H1, rfl, I1.kept (t' := s1.toks) fun b o e => Heap.get?_push_of_some _ e, turn_tuple ad _, ⟨_, Heap.get?_push_size _ rfl, rfl, rfl⟩, hnew, q⟩
/-- a slot's own list is shared -/
theorem freeze_ok {P F H : Hp} {σ : L2.St} {Γ : Env} {o : Opd} {v : V} {d : D} (env : EnvOk G P F H σ Γ) (ho : OpdOk G P F H σ Γ o v) (hd : o.get Γ = some d) : ∃ F1, Ext P F F1 ∧ EnvOk G P F1 H σ (freeze Γ o) ∧ Rep G F1 d v := by
  cases o with
  | val d' => cases hd; exact ⟨F, Ext.refl _ _, env, ho⟩
  | fresh d' => exact OpdOk.strong env ho hd
  | own i =>
    obtain ⟨_, hv⟩ := ho
    have hd : slotD Γ[i]? = some d := hd
    cases hs : Γ[i]? with
    | none => rw [hs] at hd; cases hd
    | some s =>
      rw [hs] at hd
      cases s with
      | no => cases hd
      | ex c fs => cases hd
      | sh d' =>
        cases hd
        obtain ⟨x, h1, h2⟩ := env.slot i _ hs
        rw [hv] at h1
        cases h1
        refine ⟨F, Ext.refl _ _, ?_, h2⟩
        show EnvOk G P F H σ (match Γ[i]? with | some (.ow d) => Γ.set i (.sh d) | _ => Γ)
        rw [hs]
        exact env
      | ow d' =>
        cases hd
        obtain ⟨ad, h1, h2, h3, h4⟩ := env.slot i _ hs
        rw [hv] at h1
        cases h1
        obtain ⟨u, hu⟩ := h4.some
        have rep := h4.freeze hu h3
        refine ⟨upd F ad u, Ext.one u h2 h3, ?_, rep⟩
        show EnvOk G P (upd F ad u) H σ (match Γ[i]? with | some (.ow d) => Γ.set i (.sh d) | _ => Γ)
        rw [hs]
        have e0 : EnvOk G P F H σ (Γ.set i .no) := by
          have zz : σ.set i (some (.ref ad)) = σ := by
            apply List.ext_getElem?
            intro j
            by_cases hj : i = j
            · subst hj
              rw [List.getElem?_set_self (len_get hv), hv]
            · rw [List.getElem?_set_ne hj]
          have z := env.setNo (v := some (.ref ad)) i (by rw [zz]; exact env.me0)
          rwa [zz] at z
        have e1 : EnvOk G P (upd F ad u) H σ (Γ.set i .no) := e0.share hu h3 fun j e hj hjv => by
          by_cases hij : i = j
          · subst hij
            rw [List.getElem?_set_self (len_get hs)] at hj
            cases hj
          · rw [List.getElem?_set_ne hij] at hj
            exact hij (env.dis i j ad d e hs hj hv hjv)
        have zz : σ.set i (some (.ref ad)) = σ := by
          apply List.ext_getElem?
          intro j
          by_cases hj : i = j
          · subst hj
            rw [List.getElem?_set_self (len_get hv), hv]
          · rw [List.getElem?_set_ne hj]
        have e2 := e1.setSh rep i (by rw [zz]; exact env.me0)
        rw [zz, List.set_set] at e2
        exact e2
theorem seq_items {F H : Hp} {d : D} {v : V} {xs : List D} (ok : Ok G X) (h : Rep G F d v) (hi : items d = some xs) : ∃ ad ys, v = .ref ad ∧ Reps G F xs ys ∧ (SqL X.K F ad ys ∨ SqT X.K F ad ys) := by
  cases d with
  | lst ds => cases hi; obtain ⟨ad, ys, rfl, h1, h2⟩ := h; exact ⟨ad, ys, rfl, h2, .inl (SqL.of h1)⟩
  | scr ds => cases hi; obtain ⟨ad, ys, rfl, h1, h2⟩ := h; exact ⟨ad, ys, rfl, h2, .inl (by rw [← ok.K]; exact h1)⟩
  | tup ds => cases hi; obtain ⟨ad, ys, rfl, h1, h2⟩ := h; exact ⟨ad, ys, rfl, h2, .inr (by rw [← ok.K]; exact h1.sq)⟩
  | _ => cases hi
theorem jok_list {F : Hp} {K : PySem.W.Frag} {ad : Addr} {ys : List V} {xs : List D} (h : SqL K F ad ys) (r : Reps G F xs ys) : JOk G false F xs (Itl K ad) where
  go := fun i H e hi => ⟨ys, ys[i]'(by rw [r.length]; exact hi), e.seq h, List.getElem?_eq_getElem _⟩
  stop := fun H e => ⟨ys, e.seq h, by rw [r.length]; exact Nat.le_refl _⟩
  yld := fun i H d x H' e hd hy => by
    obtain ⟨rfl, hy⟩ := hy
    obtain ⟨w, hw, rw'⟩ := r.get hd
    have := hy ys (e.seq h)
    rw [hw] at this
    cases this
    exact .inl ⟨rfl, rw'⟩
theorem jok_tup {F : Hp} {K : PySem.W.Frag} {ad : Addr} {ys : List V} {xs : List D} (h : SqT K F ad ys) (r : Reps G F xs ys) : JOk G false F xs (Itt K ad) where
  go := fun i H e hi => ⟨ys, ys[i]'(by rw [r.length]; exact hi), same_t e h, List.getElem?_eq_getElem _⟩
  stop := fun H e => ⟨ys, same_t e h, by rw [r.length]; exact Nat.le_refl _⟩
  yld := fun i H d x H' e hd hy => by
    obtain ⟨rfl, hy⟩ := hy
    obtain ⟨w, hw, rw'⟩ := r.get hd
    have := hy ys (same_t e h)
    rw [hw] at this
    cases this
    exact .inl ⟨rfl, rw'⟩
theorem IPost.ext {y : Bool} {P F F1 : Hp} {σ : L2.St} {R : L2.It → Hp → Prop} {r : DP.R (List D)} (e : Ext P F F1) (h : IPost G W y P F σ R r) : IPost G W y P F1 σ R r := by
  cases r with
  | ok b Γ' => exact fun J F' H' e' env => h J F' H' (e.trans e') env
  | exc c fs Γ' => exact GoX.ext e h
  | stuck => exact h
theorem tri_seq (ok : Ok G X) : TrI G W false (iSeq X.K (rd G W da)) (iE da) := fun σ H R hq => by
  obtain ⟨P, F, Γ, env, h⟩ := hq
  refine rd_bindG (Post := fun F r => IPost G W false P F σ R r) env h (fun z => z) (fun _ _ _ z => z) (fun _ _ e z => z.ext e) fun o1 Γ1 v1 F1 H1 e1 env1 ho1 h1 => ?_
  cases hx : o1.get Γ1 with
  | none => simp only [hx] at h1; exact h1.elim
  | some d =>
    simp only [hx] at h1
    cases hi : items d with
    | none => simp only [hi] at h1; exact h1.elim
    | some xs =>
      simp only [hi] at h1
      obtain ⟨F2, e2, env2, r2⟩ := freeze_ok env1 ho1 hx
      obtain ⟨ad, ys, rfl, r, hs⟩ := seq_items (X := X) (H := H1) ok r2 hi
      refine ⟨ad, rfl, ?_⟩
      rcases hs with hs | hs
      · exact .inl ⟨⟨ys, env2.fh.seq hs⟩, h1 _ F2 H1 e2 env2 (jok_list hs r)⟩
      · exact .inr ⟨⟨ys, same_t env2.fh hs⟩, h1 _ F2 H1 e2 env2 (jok_tup hs r)⟩
theorem zInts_get : ∀ (n i : Nat) (l : Int) (d : D), (zInts l n)[i]? = some d → i < n ∧ d = .int (l + i)
  | 0, _, _, _, h => by simp [zInts] at h
  | n + 1, 0, l, d, h => by
    have : D.int l = d := by simpa [zInts] using h
    exact ⟨Nat.succ_pos _, by rw [← this]; simp⟩
  | n + 1, i + 1, l, d, h => by
    have h' : (zInts (l + 1) n)[i]? = some d := by simpa [zInts] using h
    obtain ⟨h1, h2⟩ := zInts_get n i (l + 1) d h'
    refine ⟨by omega, ?_⟩
    rw [h2]
    congr 1
    omega
theorem zInts_len : ∀ (n : Nat) (l : Int), (zInts l n).length = n
  | 0, _ => rfl
  | n + 1, l => congrArg (· + 1) (zInts_len n (l + 1))
theorem stepInts_get : ∀ (n i : Nat) (l c : Int) (d : D), (stepInts l c n)[i]? = some d → i < n ∧ d = .int (l + i * c)
  | 0, _, _, _, _, h => by simp [stepInts] at h
  | n + 1, 0, l, c, d, h => by
    have : D.int l = d := by simpa [stepInts] using h
    exact ⟨Nat.succ_pos _, by rw [← this]; simp⟩
  | n + 1, i + 1, l, c, d, h => by
    have h' : (stepInts (l + c) c n)[i]? = some d := by simpa [stepInts] using h
    obtain ⟨h1, h2⟩ := stepInts_get n i (l + c) c d h'
    refine ⟨by omega, ?_⟩
    rw [h2]
    congr 1
    have : ((i + 1 : Nat) : Int) * c = (i : Int) * c + c := by
      rw [Int.natCast_add, Int.add_mul]
      simp
    omega
theorem stepInts_len : ∀ (n : Nat) (l c : Int), (stepInts l c n).length = n
  | 0, _, _ => rfl
  | n + 1, l, c => congrArg (· + 1) (stepInts_len n (l + c) c)
theorem jok_range {F : Hp} (lo : Int) (n : Nat) : JOk G false F (zInts lo n) (Itr lo n) where
  go := fun i H e hi => by rw [zInts_len] at hi; exact hi
  stop := fun H e => by rw [zInts_len]; exact Nat.le_refl _
  yld := fun i H d x H' e hd hy => by
    obtain ⟨rfl, rfl⟩ := hy
    obtain ⟨_, rfl⟩ := zInts_get n i lo d hd
    exact .inl ⟨rfl, rfl⟩
theorem jok_step {F : Hp} (lo c : Int) (n : Nat) : JOk G false F (stepInts lo c n) (Itc lo c n) where
  go := fun i H e hi => by rw [stepInts_len] at hi; exact hi
  stop := fun H e => by rw [stepInts_len]; exact Nat.le_refl _
  yld := fun i H d x H' e hd hy => by
    obtain ⟨rfl, rfl⟩ := hy
    obtain ⟨_, rfl⟩ := stepInts_get n i lo c d hd
    exact .inl ⟨rfl, rfl⟩
theorem inLine_of {i : Int} (h : inLine i = true) : -(2 ^ 62) ≤ i ∧ i < 2 ^ 62 := by
  unfold inLine at h
  simpa only [Bool.and_eq_true, decide_eq_true_eq] using h
theorem tri_r1 : TrI G W false (iRng1 (rdA G W (aCons da aNil))) (iR1 da) := fun σ H R hq => by
  obtain ⟨P, F, Γ, env, h⟩ := hq
  refine ⟨P, F, Γ, env, ?_⟩
  have h : IPost G W false P F σ R ((da Γ).bind fun x Γ1 => match x with | .val (.int j) => if inLine j then .ok (zInts 0 j.toNat) Γ1 else .stuck | _ => .stuck) := h
  show APost G W P F σ _ ((da Γ).bind fun x Γ1 => (DP.R.ok [] Γ1).bind fun xs Γ2 => .ok (x :: xs) Γ2)
  cases hd : da Γ with
  | exc c fs Γ1 => rw [hd] at h; exact h
  | stuck => rw [hd] at h; exact h.elim
  | ok o Γ1 =>
    rw [hd] at h
    intro vs F' H' e' env' hw
    obtain ⟨v, r, rfl, hv, hr⟩ := hw
    rw [show r = [] from hr]
    cases o with
    | fresh d => exact h.elim
    | own i => exact h.elim
    | val d =>
      cases d with
      | int j =>
        dsimp only [DP.R.bind] at h
        split at h
        · rename_i hl
          obtain ⟨l1, l2⟩ := inLine_of hl
          have hv' : v = .int j := by
            rcases hv with ⟨d', e, hr⟩ | ⟨i, e, _⟩
            · cases e; exact hr
            · cases e
          exact ⟨j, by rw [hv'], l1, l2, h _ F' H' e' env' (jok_range 0 _)⟩
        · exact h.elim
      | _ => exact h.elim
theorem wopd_int {F : Hp} {σ : L2.St} {i : Int} {v : V} (hv : (∃ d, (Opd.val (.int i)).str = some d ∧ Rep G F d v) ∨ ∃ j, Opd.val (.int i) = .own j ∧ σ[j]? = some (some v)) : v = .int i := by
  rcases hv with ⟨d', e, hr⟩ | ⟨j, e, _⟩
  · cases e; exact hr
  · cases e
/-- two ints as arguments -/
theorem args2 {k : Int → Int → Env → DP.R (List D)} {Post : Hp → DP.R (List D) → Prop} {R0 : List V → Hp → Prop} {P F H : Hp} {σ : L2.St} {Γ : Env} (env : EnvOk G P F H σ Γ)
    (h : Post F ((da Γ).bind fun x Γ1 => (db Γ1).bind fun y Γ2 => match x, y with | .val (.int i), .val (.int j) => k i j Γ2 | _, _ => .stuck)) (hs : ∀ F, Post F .stuck → False)
    (hx : ∀ F c fs Γ1, Post F (.exc c fs Γ1) → GoX G W P F σ Γ1 c fs) (hm : ∀ F F' r, Ext P F F' → Post F r → Post F' r)
    (hk : ∀ i j Γ2 F' H', Ext P F F' → EnvOk G P F' H' σ Γ2 → Post F' (k i j Γ2) → R0 [.int i, .int j] H') : rdA G W (aCons da (aCons db aNil)) σ H R0 := by
  refine ⟨P, F, Γ, env, ?_⟩
  show APost G W P F σ R0 ((da Γ).bind fun x Γ1 => ((db Γ1).bind fun y Γ2 => (DP.R.ok [] Γ2).bind fun xs Γ3 => .ok (y :: xs) Γ3).bind fun xs Γ2 => .ok (x :: xs) Γ2)
  cases hd : da Γ with
  | exc c fs Γ1 => rw [hd] at h; exact hx F _ _ _ h
  | stuck => rw [hd] at h; exact (hs F h).elim
  | ok o1 Γ1 =>
    rw [hd] at h
    dsimp only [DP.R.bind] at h ⊢
    cases he : db Γ1 with
    | exc c fs Γ2 => rw [he] at h; exact hx F _ _ _ h
    | stuck => rw [he] at h; exact (hs F h).elim
    | ok o2 Γ2 =>
      rw [he] at h
      intro vs F' H' e' env' hw
      obtain ⟨v, r, rfl, hv, w, r2, rfl, hw, hr⟩ := hw
      rw [show r2 = [] from hr]
      cases o1 with
      | fresh d => exact (hs F h).elim
      | own i => exact (hs F h).elim
      | val d =>
        cases d with
        | int i =>
          cases o2 with
          | fresh d => exact (hs F h).elim
          | own i => exact (hs F h).elim
          | val d2 =>
            cases d2 with
            | int j =>
              rw [wopd_int hv, wopd_int hw]
              exact hk i j Γ2 F' H' e' env' (hm F F' _ e' h)
            | _ => exact (hs F h).elim
        | _ => exact (hs F h).elim
theorem tri_r2 : TrI G W false (iRng2 (rdA G W (aCons da (aCons db aNil)))) (iR2 da db) := fun σ H R hq => by
  obtain ⟨P, F, Γ, env, h⟩ := hq
  refine args2 (Post := fun F r => IPost G W false P F σ R r) (k := fun i j Γ2 => if inLine i && inLine j then .ok (zInts i (j - i).toNat) Γ2 else .stuck) env h (fun _ z => z) (fun _ _ _ _ z => z) (fun _ _ _ e z => z.ext e) fun i j Γ2 F' H' e' env' q => ?_
  split at q
  · rename_i hl
    rw [Bool.and_eq_true] at hl
    obtain ⟨l1, l2⟩ := inLine_of hl.1
    obtain ⟨l3, l4⟩ := inLine_of hl.2
    exact ⟨i, j, rfl, ⟨l1, l2, l3, l4⟩, q _ F' H' (Ext.refl _ _) env' (jok_range i _)⟩
  · exact q.elim
/-- range(a, b, -1) walked -/
theorem tri_rd {ta : TA} (ht : ∀ σ H (Q : List V → Hp → Prop), rdA G W (aCons da (aCons db aNil)) σ H (fun vs H1 => Q (vs ++ [.int (-1)]) H1) → ta σ H Q) : TrI G W false (iRng3 ta) (iRd da db) := fun σ H R hq => by
  obtain ⟨P, F, Γ, env, h⟩ := hq
  refine ht σ H _ ?_
  refine args2 (Post := fun F r => IPost G W false P F σ R r) (k := fun i j Γ2 => if inLine i && inLine j then .ok (stepInts i (-1) (i - j).toNat) Γ2 else .stuck) env h (fun _ z => z) (fun _ _ _ _ z => z) (fun _ _ _ e z => z.ext e) fun i j Γ2 F' H' e' env' q => ?_
  split at q
  · rename_i hl
    rw [Bool.and_eq_true] at hl
    obtain ⟨l1, l2⟩ := inLine_of hl.1
    obtain ⟨l3, l4⟩ := inLine_of hl.2
    exact ⟨i, j, -1, _, rfl, RgC.neg l1 l2 l3 l4, q _ F' H' (Ext.refl _ _) env' (jok_step i (-1) _)⟩
  · exact q.elim
theorem da3m1 (h : PA X [a, b] (rdA G W (aCons da (aCons db aNil)))) (hb : PE X b (rd G W db)) (ha : PE X a (rd G W da)) (hc : PE X c (tC (.int (-1)))) (hs : starEach [a, b, c] X.env = (false, eval a X.env) :: starEach [b, c] X.env := by rfl) (hs2 : starEach [b, c] X.env = (false, eval b X.env) :: starEach [c] X.env := by rfl)
    (hs3 : starEach [c] X.env = (false, eval c X.env) :: starEach [] X.env := by rfl) : PA X [a, b, c] (tCons (rd G W da) (tCons (rd G W db) (tCons (tC (.int (-1))) tNil))) := pa_cons ha (pa_cons hb (pa_cons hc pa_nil hs3) hs2) hs
theorem ta3 : ∀ σ H (Q : List V → Hp → Prop), rdA G W (aCons da (aCons db aNil)) σ H (fun vs H1 => Q (vs ++ [.int (-1)]) H1) → tCons (rd G W da) (tCons (rd G W db) (tCons (tC (.int (-1))) tNil)) σ H Q := fun σ H Q hq => by
  obtain ⟨P, F, Γ, env, h⟩ := hq
  have h : APost G W P F σ (fun vs H1 => Q (vs ++ [.int (-1)]) H1) ((da Γ).bind fun x Γ1 => ((db Γ1).bind fun y Γ2 => (DP.R.ok [] Γ2).bind fun xs Γ3 => .ok (y :: xs) Γ3).bind fun xs Γ2 => .ok (x :: xs) Γ2) := h
  refine rd_bindG (Post := fun F r => APost G W P F σ (fun vs H1 => Q (vs ++ [.int (-1)]) H1) r) env h (fun z => z) (fun _ _ _ z => z) (fun _ _ e z => z.ext e) fun o1 Γ1 v1 F1 H1 e1 env1 ho1 h1 => ?_
  obtain ⟨F2, e2, env2, hw⟩ := wopd_of env1 ho1
  have h2 := APost.ext e2 h1
  refine ⟨P, F2, Γ1, env2, ?_⟩
  cases he : db Γ1 with
  | exc c fs Γ2 => rw [he] at h2; exact h2
  | stuck => rw [he] at h2; exact h2.elim
  | ok o2 Γ2 =>
    rw [he] at h2
    intro v2 F3 H3 e3 env3 ho3
    obtain ⟨F4, e4, env4, hw2⟩ := wopd_of env3 ho3
    exact h2 [v1, v2] F4 H3 (e3.trans e4) env4 ⟨v1, _, rfl, hw F4 (e3.sub.trans e4.sub), v2, _, rfl, hw2 F4 (Same.refl _), rfl⟩
/-- enumerate of a list or a tuple -/
def iEnumS (K : PySem.W.Frag) (tl : TE) : TI := fun σ H R => tl σ H fun x H1 => ∃ a, x = .ref a ∧ ((∃ xs, SqL K H1 a xs) ∧ R (Ite K a) H1 ∨ (∃ xs, SqT K H1 a xs) ∧ R (IteT K a) H1)
theorem pi_enumS {tpos : Pos} {elts : List Expr} {kk : Nat} {tl : TE} (hg : Gl X "enumerate") (hm : X.mg "enumerate" = none) (hl : PE X e tl) (hs : starEach [e] X.env = (false, eval e X.env) :: starEach [] X.env := by rfl) :
    PI X (.Tuple elts kk tpos) (.Call (.Name "enumerate" p) [e] [] pos) (iEnumS X.K tl) := by
  refine ⟨fun pn sh τ Hh R Iv hyp => ?_⟩
  refine Call_ (ld_blt Iv hg hm boot_enumerate (PyProof.Rows.callWith_type1 (args_cons (thn (hl.run pn sh τ Hh _ Iv hyp) fun v s1 ⟨x, H1, I1, r1, q1⟩ => args_nil ?_) hs) hs rfl))
  obtain ⟨ad, rfl, q1⟩ := q1
  cases r1
  have hle : ∀ b ∈ [s1.heap.objs.size + 1, s1.heap.objs.size], s1.heap.objs.size ≤ b := fun b hb => by
    rcases (show b = s1.heap.objs.size + 1 ∨ b = s1.heap.objs.size by simpa using hb) with z | z
    · subst z; exact Nat.le_succ _
    · subst z; exact Nat.le_refl _
  rcases q1 with ⟨⟨xs, hq⟩, q⟩ | ⟨⟨xs, hq⟩, q⟩
  · obtain ⟨ws, rv, pl, hz⟩ := I1.list hq
    refine call_enumerate_list pl.isList fun h' he hit hsz hk => wpAny_pyIter_enum he ?_
    have I2 : Inv X pn τ H1 { s1 with heap := h' } := I1.kept (t' := s1.toks) hk
    exact ⟨s1.heap.objs.size + 1, [s1.heap.objs.size + 1, s1.heap.objs.size], _, _, H1, rfl, I2, turn_enum ad (s1.heap.objs.size + 1) s1.heap.objs.size, ⟨⟨.none, he⟩, hit, Nat.succ_ne_self _⟩, fun b hb => I1.fpOk (hle b hb) (I1.hok.fresh (hle b hb)), q⟩
  · obtain ⟨ws, rv, pt, hz⟩ := I1.tuple hq
    refine call_enum1 (begins_tuple ad ws.toArray) pt fun h' he hit hsz hk => wpAny_pyIter_enum he ?_
    have I2 : Inv X pn τ H1 { s1 with heap := h' } := I1.kept (t' := s1.toks) hk
    exact ⟨s1.heap.objs.size + 1, [s1.heap.objs.size + 1, s1.heap.objs.size], _, _, H1, rfl, I2, turn_enumT ad (s1.heap.objs.size + 1) s1.heap.objs.size, ⟨⟨.none, he⟩, ⟨_, hit, rfl, rfl⟩, Nat.succ_ne_self _, Nat.ne_of_lt pt.lt⟩, fun b hb => I1.fpOk (hle b hb) (I1.hok.fresh (hle b hb)), q⟩
theorem enumD_get : ∀ (xs : List D) (n : Int) (i : Nat) (d : D), (enumD n xs)[i]? = some d → ∃ x, xs[i]? = some x ∧ d = .tup [.int (n + i), x]
  | [], _, _, _, h => by simp [enumD] at h
  | x :: r, n, 0, d, h => by
    have : D.tup [.int n, x] = d := by simpa [enumD] using h
    exact ⟨x, rfl, by rw [← this]; simp⟩
  | x :: r, n, i + 1, d, h => by
    have h' : (enumD (n + 1) r)[i]? = some d := by simpa [enumD] using h
    obtain ⟨y, h1, h2⟩ := enumD_get r (n + 1) i d h'
    refine ⟨y, by simpa using h1, ?_⟩
    rw [h2]
    congr 3
    omega
theorem enumD_len : ∀ (xs : List D) (n : Int), (enumD n xs).length = xs.length
  | [], _ => rfl
  | _ :: r, n => congrArg (· + 1) (enumD_len r (n + 1))
theorem enum_pair {F : Hp} {i : Nat} {x : D} {w : V} (r : Rep G F x w) : Reps G F [.int (0 + (i : Nat)), x] [.int (i : Nat), w] := ⟨_, _, rfl, by show V.int _ = V.int _; congr 1; omega, Reps.one r⟩
theorem jok_enumL {F : Hp} {K : PySem.W.Frag} {ad : Addr} {ys : List V} {xs : List D} (h : SqL K F ad ys) (r : Reps G F xs ys) : JOk G true F (enumD 0 xs) (Ite K ad) where
  go := fun i H e hi => by
    rw [enumD_len] at hi
    exact ⟨ys, ys[i]'(by rw [r.length]; exact hi), e.seq h, List.getElem?_eq_getElem _⟩
  stop := fun H e => ⟨ys, e.seq h, by rw [r.length, enumD_len]; exact Nat.le_refl _⟩
  yld := fun i H d x H' e hd hy => by
    obtain ⟨x0, hx0, rfl⟩ := enumD_get xs 0 i d hd
    obtain ⟨T, w, rfl, hT, rfl, hw⟩ := hy
    obtain ⟨w', hw', rw'⟩ := r.get hx0
    have := hw ys (e.seq h)
    rw [hw'] at this
    cases this
    exact .inr ⟨rfl, T, _, _, rfl, hT, rfl, rfl, enum_pair rw'⟩
theorem jok_enumT {F : Hp} {K : PySem.W.Frag} {ad : Addr} {ys : List V} {xs : List D} (h : SqT K F ad ys) (r : Reps G F xs ys) : JOk G true F (enumD 0 xs) (IteT K ad) where
  go := fun i H e hi => by
    rw [enumD_len] at hi
    exact ⟨ys, ys[i]'(by rw [r.length]; exact hi), same_t e h, List.getElem?_eq_getElem _⟩
  stop := fun H e => ⟨ys, same_t e h, by rw [r.length, enumD_len]⟩
  yld := fun i H d x H' e hd hy => by
    obtain ⟨x0, hx0, rfl⟩ := enumD_get xs 0 i d hd
    obtain ⟨T, w, rfl, hT, rfl, hw⟩ := hy
    obtain ⟨w', hw', rw'⟩ := r.get hx0
    have := hw ys (same_t e h)
    rw [hw'] at this
    cases this
    exact .inr ⟨rfl, T, _, _, rfl, hT, rfl, rfl, enum_pair rw'⟩
theorem tri_enum (ok : Ok G X) : TrI G W true (iEnumS X.K (rd G W da)) (iEnum da) := fun σ H R hq => by
  obtain ⟨P, F, Γ, env, h⟩ := hq
  refine rd_bindG (Post := fun F r => IPost G W true P F σ R r) env h (fun z => z) (fun _ _ _ z => z) (fun _ _ e z => z.ext e) fun o1 Γ1 v1 F1 H1 e1 env1 ho1 h1 => ?_
  cases hx : o1.get Γ1 with
  | none => simp only [hx] at h1; exact h1.elim
  | some d =>
    simp only [hx] at h1
    cases hi : items d with
    | none => simp only [hi] at h1; exact h1.elim
    | some xs =>
      simp only [hi] at h1
      obtain ⟨F2, e2, env2, r2⟩ := freeze_ok env1 ho1 hx
      obtain ⟨ad, ys, rfl, r, hs⟩ := seq_items (X := X) (H := H1) ok r2 hi
      refine ⟨ad, rfl, ?_⟩
      rcases hs with hs | hs
      · exact .inl ⟨⟨ys, env2.fh.seq hs⟩, h1 _ F2 H1 e2 env2 (jok_enumL hs r)⟩
      · exact .inr ⟨⟨ys, same_t env2.fh hs⟩, h1 _ F2 H1 e2 env2 (jok_enumT hs r)⟩
end
end DP

/-! DpStm2: statements, loops, comprehensions, defs. -/
namespace DP
open PySem PySem.Spec
    PyProof.Rows L2

def SPost (G : Gx) (W : WX) (P F : Hp) (D : Ends) : SR → Prop
  | .next Γ' => ∀ σ' F' H', Ext P F F' → EnvOk G P F' H' σ' Γ' → D.nx σ' H'
  | .ret d => ∀ v F' H', Ext P F F' → Same P H' → Same F' H' → Rep G F' d v → D.rt v H'
  | .brk Γ' => ∀ σ' F' H', Ext P F F' → EnvOk G P F' H' σ' Γ' → D.bk σ' H'
  | .cont Γ' => ∀ σ' F' H', Ext P F F' → EnvOk G P F' H' σ' Γ' → D.ct σ' H'
  | .exc c fs Γ' => ∀ σ' F' H' cls d, Ext P F F' → EnvOk G P F' H' σ' Γ' → ExcOk G F' c fs cls d H' → W cls d σ' H'
  | .stuck => False
def rs (G : Gx) (W : WX) (s : DP.S) : TS := fun D σ H => ∃ P F Γ, EnvOk G P F H σ Γ ∧ SPost G W P F D (s Γ)

section
variable {G : Gx} {W : WX} {X : Cx} {a b c e o tg iter : Expr} {es : List Expr} {st : Stmt} {body sts : List Stmt} {pos p apos cpos p2 : Pos} {da db dc : E} {sa sb : DP.S}
variable {P F F1 H : Hp} {σ : L2.St} {Γ : Env} {D : Ends}

theorem SPost.ext {r : SR} (e : Ext P F F1) (h : SPost G W P F D r) : SPost G W P F1 D r := by
  cases r with
  | next Γ' => exact fun σ' F' H' e' env => h σ' F' H' (e.trans e') env
  | ret d => exact fun v F' H' e' => h v F' H' (e.trans e')
  | brk Γ' => exact fun σ' F' H' e' env => h σ' F' H' (e.trans e') env
  | cont Γ' => exact fun σ' F' H' e' env => h σ' F' H' (e.trans e') env
  | exc c fs Γ' => exact fun σ' F' H' cls d e' env ex => h σ' F' H' cls d (e.trans e') env ex
  | stuck => exact h
/-- an expression within a statement -/
theorem rd_s {e : E} {k : Opd → Env → SR} {R0 : VK} (env : EnvOk G P F H σ Γ) (h : SPost G W P F D ((e Γ).toSB k))
    (hk : ∀ o Γ1 v F' H', Ext P F F' → EnvOk G P F' H' σ Γ1 → OpdOk G P F' H' σ Γ1 o v → SPost G W P F' D (k o Γ1) → R0 v H') : rd G W e σ H R0 := by
  refine ⟨P, F, Γ, env, ?_⟩
  cases he : e Γ with
  | ok o Γ1 =>
    rw [he] at h
    exact fun v F' H' e' env' ho => hk o Γ1 v F' H' e' env' ho (SPost.ext e' h)
  | exc c fs Γ1 =>
    rw [he] at h
    exact fun F' H' cls d e' env' ex => h σ F' H' cls d e' env' ex
  | stuck => rw [he] at h; exact h.elim
theorem rdT_s {e : T} {k : Bool → Env → SR} {R0 : Bool → Hp → Prop} (env : EnvOk G P F H σ Γ) (h : SPost G W P F D ((e Γ).toSB k))
    (hk : ∀ o Γ1 F' H', Ext P F F' → EnvOk G P F' H' σ Γ1 → SPost G W P F' D (k o Γ1) → R0 o H') : rdT G W e σ H R0 := by
  refine ⟨P, F, Γ, env, ?_⟩
  cases he : e Γ with
  | ok o Γ1 =>
    rw [he] at h
    exact fun F' H' e' env' => hk o Γ1 F' H' e' env' (SPost.ext e' h)
  | exc c fs Γ1 =>
    rw [he] at h
    exact fun F' H' cls d e' env' ex => h σ F' H' cls d e' env' ex
  | stuck => rw [he] at h; exact h.elim

/-! ### blocks -/
theorem dss_nil : PSs X [] (rs G W sNext) := by
  refine PSs_imp pss_nil fun D σ H hq => ?_
  obtain ⟨P, F, Γ, env, h⟩ := hq
  exact h σ F H (Ext.refl _ _) env
theorem dss_cons (h1 : PS X st (rs G W sa)) (h2 : PSs X sts (rs G W sb)) : PSs X (st :: sts) (rs G W (sSeq sa sb)) := by
  refine PSs_imp (pss_cons h1 h2) fun D σ H hq => ?_
  obtain ⟨P, F, Γ, env, h⟩ := hq
  have h : SPost G W P F D (sSeq sa sb Γ) := h
  unfold sSeq at h
  refine ⟨P, F, Γ, env, ?_⟩
  cases ha : sa Γ with
  | next Γ1 =>
    rw [ha] at h
    exact fun σ' F' H' e' env' => ⟨P, F', Γ1, env', SPost.ext e' h⟩
  | ret d => rw [ha] at h; exact h
  | brk Γ1 => rw [ha] at h; exact h
  | cont Γ1 => rw [ha] at h; exact h
  | exc c fs Γ1 => rw [ha] at h; exact h
  | stuck => rw [ha] at h; exact h
theorem dss_one (h1 : PS X st (rs G W sa)) : PSs X [st] (rs G W sa) := pss_one h1

/-! ### plain statements -/
theorem set_ok {o : Opd} {v : V} (env : EnvOk G P F H σ Γ) (ho : OpdOk G P F H σ Γ o v) (i : Nat) (hz : G.me = none ∨ i ≠ 0) (h : SPost G W P F D (setR i o Γ)) : D.nx (σ.set i (some v)) H := by
  cases o with
  | val d => exact h _ F H (Ext.refl _ _) (env.setSh ho i (hz_of env hz))
  | fresh d =>
    obtain ⟨ad, rfl, h2, h3, h4, h5⟩ := ho
    exact h _ F H (Ext.refl _ _) (env.setOw h2 h3 h4 h5 i (hz_of env hz))
  | own j => exact h.elim
theorem set_tr (i : Nat) (hz : G.me = none ∨ i ≠ 0) (D : Ends) (σ : L2.St) (H : Hp) (hq : rs G W (sSet i da) D σ H) : tAsg (rd G W da) (gName i) D σ H := by
  obtain ⟨P, F, Γ, env, h⟩ := hq
  exact rd_s env h fun o1 Γ1 v1 F1 H1 e1 env1 ho1 h1 => set_ok env1 ho1 i hz h1
theorem ds_set {x : Str} {p' : Pos} (i : Nat) (hN : X.N.Nodup) (he : PE X e (rd G W da)) (hi : X.N[i]? = some x := by rfl) (hx : Loc X.env.scope x := by first | exact Or.inl rfl | exact Or.inr rfl) (hs : swapsWith e (some (.Name x p')) pos.line X.env = pure false := by rfl) (hf : X.fn x = true ∨ X.env.scope.names.lookup x = some .local := by first | exact .inl rfl | exact .inr rfl | assumption) (hz : G.me = none ∨ i ≠ 0 := by first | exact .inl rfl | exact .inr (by decide)) :
    PS X (.Assign [.Name x p'] e pos) (rs G W (sSet i da)) := PS_imp (ps_set hN hi hx he hs hf) (set_tr i hz)
theorem ds_tg {g : TG} {tgD : Tg} (he : PE X e (rd G W da)) (hg : PG X tg g) (tr : TrG G false g tgD) (hs : swapsWithSole [tg] e pos.line X.env = pure false := by rfl) (hw : swappedStores [tg] e X.env = pure none := by rfl) (h1 : (assignEach [tg] X.env).map (fun z => z.2) = [assign tg X.env] := by rfl) : PS X (.Assign [tg] e pos) (rs G W (sTg tgD da)) := by
  refine PS_imp (ps_asg he hg hs hw h1) fun D σ H hq => ?_
  obtain ⟨P, F, Γ, env, h⟩ := hq
  refine rd_s env h fun o1 Γ1 v1 F1 H1 e1 env1 ho1 h1 => ?_
  cases hx : o1.str with
  | none => simp only [hx] at h1; exact h1.elim
  | some d =>
    simp only [hx] at h1
    obtain ⟨F2, e2, env2, r2⟩ := OpdOk.strong env1 ho1 hx
    cases ht : tgD d Γ1 with
    | none => simp only [ht] at h1; exact h1.elim
    | some Γ2 =>
      simp only [ht] at h1
      exact tr P F2 H1 σ Γ1 Γ2 d v1 D.nx env2 (.inl r2) ht fun σ' env' => h1 σ' F2 H1 e2 env'
theorem ds_drop (he : PE X e (rd G W da)) (hs : swapsWith e none pos.line X.env = pure false := by rfl) : PS X (.Expr e pos) (rs G W (sDrop da)) := by
  refine PS_imp (ps_expr he hs) fun D σ H hq => ?_
  obtain ⟨P, F, Γ, env, h⟩ := hq
  exact rd_s env h fun o1 Γ1 v1 F1 H1 e1 env1 ho1 h1 => h1 σ F1 H1 (Ext.refl _ _) env1
theorem ds_ret (he : PE X e (rd G W da)) : PS X (.Return (some e) pos) (rs G W (sRet da)) := by
  refine PS_imp (ps_ret he) fun D σ H hq => ?_
  obtain ⟨P, F, Γ, env, h⟩ := hq
  refine rd_s env h fun o1 Γ1 v1 F1 H1 e1 env1 ho1 h1 => ?_
  cases hx : o1.get Γ1 with
  | none => simp only [hx] at h1; exact h1.elim
  | some d =>
    simp only [hx] at h1
    obtain ⟨F2, e2, env2, r2⟩ := freeze_ok env1 ho1 hx
    exact h1 v1 F2 H1 e2 env2.pf env2.fh r2
theorem ds_retN : PS X (.Return none pos) (rs G W sRetN) := by
  refine PS_imp ps_retN fun D σ H hq => ?_
  obtain ⟨P, F, Γ, env, h⟩ := hq
  exact h .non F H (Ext.refl _ _) env.pf env.fh rfl
theorem ds_if {tc : T} (hc : PT X c (rdT G W tc)) (ha : PSs X body (rs G W sa)) (hb : PSs X sts (rs G W sb)) : PS X (.If c body sts pos) (rs G W (sIf tc sa sb)) := by
  refine PS_imp (ps_if hc ha hb) fun D σ H hq => ?_
  obtain ⟨P, F, Γ, env, h⟩ := hq
  refine rdT_s env h fun k Γ1 F1 H1 e1 env1 h1 => ?_
  cases k with
  | true => exact ⟨P, F1, Γ1, env1, h1⟩
  | false => exact ⟨P, F1, Γ1, env1, h1⟩
theorem ds_pass : PS X (.Pass pos) (rs G W sNext) := by
  refine PS_imp ps_pass fun D σ H hq => ?_
  obtain ⟨P, F, Γ, env, h⟩ := hq
  exact h σ F H (Ext.refl _ _) env
theorem ds_break : PS X (.Break pos) (rs G W sBrk) := by
  refine PS_imp ps_break fun D σ H hq => ?_
  obtain ⟨P, F, Γ, env, h⟩ := hq
  exact h σ F H (Ext.refl _ _) env
theorem ds_continue : PS X (.Continue pos) (rs G W sCont) := by
  refine PS_imp ps_continue fun D σ H hq => ?_
  obtain ⟨P, F, Γ, env, h⟩ := hq
  exact h σ F H (Ext.refl _ _) env
theorem ds_raise {cn : Str} {t : L2.St → Hp → XK → Prop} (hc : X.calm = true) (tk : Takes X W) (he : PMk X e t) (ht : ∀ σ H (Q : XK), (∀ cls, G.mg cn = some cls → Q cls none H) → t σ H Q) : PS X (.Raise (some e) none pos) (rs G W (sRaise cn)) := by
  refine PS_imp (ps_raise hc tk he) fun D σ H hq => ?_
  obtain ⟨P, F, Γ, env, h⟩ := hq
  exact ht σ H _ fun cls hcls => h σ F H cls none (Ext.refl _ _) env ⟨hcls, .inl ⟨rfl, rfl⟩⟩

/-! ### for, while -/
theorem drop_at {α : Type} {l : List α} {i : Nat} (h : i < l.length) : l.drop i = l[i] :: l.drop (i + 1) := List.drop_eq_getElem_cons h
theorem yok_env {y : Bool} {d : DP.D} {x : V} {H' : Hp} (hF : Same F F1) (env : EnvOk G P F1 H σ Γ) (hy : YOk G F y d x H H') : EnvOk G P F1 H' σ Γ ∧ XOk G F1 H' y d x := by
  rcases hy with ⟨rfl, r⟩ | ⟨hy, T, vs, ds, rfl, hT, rfl, rfl, r⟩
  · exact ⟨env, .inl (r.mono hF)⟩
  · exact ⟨env.new hT, .inr ⟨hy, T, vs, ds, rfl, upd_same, rfl, r.mono hF⟩⟩
theorem ds_for {wi : TI} {g : TG} {tgD : Tg} {it : DP.It} {y : Bool} (hp : PassesOwn (model X.prog X.w) X.A X.env X.xe) (hc : X.calm = true) (hi : PI X tg iter wi) (ti : TrI G W y wi it) (hg : PG X tg g) (tr : TrG G y g tgD) (hb : PSs X body (rs G W sb))
    (hs : ∀ x, foldedSetIterable iter X.env x = pure x := by intro _; rfl) : PS X (.For tg iter body [] pos) (rs G W (sFor it tgD sb)) := by
  refine PS_imp (ps_for hp hc hi hg hb hs) fun D σ H hq => ?_
  obtain ⟨P, F, Γ, env, h⟩ := hq
  have h : SPost G W P F D ((it Γ).toSB fun xs Γ1 => forLoop tgD sb xs Γ1) := h
  refine ti σ H _ ⟨P, F, Γ, env, ?_⟩
  cases hit : it Γ with
  | exc c fs Γ1 => rw [hit] at h; exact fun F' H' cls d e' env' ex => h σ F' H' cls d e' env' ex
  | stuck => rw [hit] at h; exact h.elim
  | ok ds Γ1 =>
    rw [hit] at h
    intro J F1 H1 e1 env1 jok
    have h : SPost G W P F1 D (forLoop tgD sb ds Γ1) := SPost.ext e1 h
    refine ⟨fun i m σ' H' => m = ds.length - i ∧ i ≤ ds.length ∧ ∃ F' Γ', Ext P F1 F' ∧ EnvOk G P F' H' σ' Γ' ∧ SPost G W P F' D (forLoop tgD sb (ds.drop i) Γ'), ⟨ds.length, by simp, Nat.zero_le _, F1, Γ1, Ext.refl _ _, env1, h⟩, ?_⟩
    rintro i m σ' H' ⟨rfl, hil, F', Γ', e', env', h'⟩
    by_cases hlt : i < ds.length
    · refine .inr ⟨jok.go i H' (e'.sub.trans env'.fh) hlt, fun σ2 H2 => ∃ F2 Γ2, Ext P F1 F2 ∧ EnvOk G P F2 H2 σ2 Γ2 ∧ SPost G W P F2 D (forLoop tgD sb (ds.drop (i + 1)) Γ2), fun σ2 H2 hN => ⟨ds.length - (i + 1), by omega, rfl, hlt, hN⟩, fun x H2 hy => ?_⟩
      have hd : ds[i]? = some ds[i] := List.getElem?_eq_getElem hlt
      obtain ⟨env2, hx⟩ := yok_env e'.sub env' (jok.yld i H' ds[i] x H2 (e'.sub.trans env'.fh) hd hy)
      rw [drop_at hlt] at h'
      unfold forLoop at h'
      cases ht : tgD ds[i] Γ' with
      | none => rw [ht] at h'; exact h'.elim
      | some Γ3 =>
        rw [ht] at h'
        refine tr P F' H2 σ' Γ' Γ3 ds[i] x _ env2 hx ht fun σ3 env3 => ⟨P, F', Γ3, env3, ?_⟩
        dsimp only at h'
        cases hb' : sb Γ3 with
        | next Γ4 => rw [hb'] at h'; exact fun σ4 F4 H4 e4 env4 => ⟨F4, Γ4, e'.trans e4, env4, SPost.ext e4 h'⟩
        | cont Γ4 => rw [hb'] at h'; exact fun σ4 F4 H4 e4 env4 => ⟨F4, Γ4, e'.trans e4, env4, SPost.ext e4 h'⟩
        | brk Γ4 => rw [hb'] at h'; exact h'
        | ret d => rw [hb'] at h'; exact h'
        | exc c fs Γ4 => rw [hb'] at h'; exact h'
        | stuck => rw [hb'] at h'; exact h'.elim
    · have hie : i = ds.length := by omega
      subst hie
      rw [List.drop_length] at h'
      exact .inl ⟨jok.stop H' (e'.sub.trans env'.fh), h' σ' F' H' (Ext.refl _ _) env'⟩
theorem ds_while {tc : T} {n : Nat} (hp : PassesOwn (model X.prog X.w) X.A X.env X.xe) (hc : PT X c (rdT G W tc)) (hb : PSs X body (rs G W sb)) : PS X (.While c body [] pos) (rs G W (sWhile n tc sb)) := by
  refine PS_imp (ps_while hp hc hb) fun D σ H hq => ?_
  obtain ⟨P, F, Γ, env, h⟩ := hq
  have h : SPost G W P F D (whileLoop tc sb n Γ) := h
  refine ⟨fun m σ' H' => ∃ F' Γ', EnvOk G P F' H' σ' Γ' ∧ SPost G W P F' D (whileLoop tc sb m Γ'), ⟨n, F, Γ, env, h⟩, ?_⟩
  rintro m σ' H' ⟨F', Γ', env', h'⟩
  cases m with
  | zero => exact h'.elim
  | succ m =>
    unfold whileLoop at h'
    refine rdT_s env' h' fun k Γ1 F1 H1 e1 env1 h1 => ?_
    cases k with
    | false =>
      show D.nx σ' H1
      exact h1 σ' F1 H1 (Ext.refl _ _) env1
    | true =>
      refine ⟨fun σ2 H2 => ∃ F2 Γ2, EnvOk G P F2 H2 σ2 Γ2 ∧ SPost G W P F2 D (whileLoop tc sb m Γ2), fun σ2 H2 hN => ⟨m, Nat.lt_succ_self _, hN⟩, P, F1, Γ1, env1, ?_⟩
      have h1 : SPost G W P F1 D (match sb Γ1 with | .next Γ2 => whileLoop tc sb m Γ2 | .cont Γ2 => whileLoop tc sb m Γ2 | .brk Γ2 => .next Γ2 | .ret d => .ret d | .exc c fs Γ2 => .exc c fs Γ2 | .stuck => .stuck) := h1
      cases hb' : sb Γ1 with
      | next Γ4 => rw [hb'] at h1; exact fun σ4 F4 H4 e4 env4 => ⟨F4, Γ4, env4, SPost.ext e4 h1⟩
      | cont Γ4 => rw [hb'] at h1; exact fun σ4 F4 H4 e4 env4 => ⟨F4, Γ4, env4, SPost.ext e4 h1⟩
      | brk Γ4 => rw [hb'] at h1; exact h1
      | ret d => rw [hb'] at h1; exact h1
      | exc c fs Γ4 => rw [hb'] at h1; exact h1
      | stuck => rw [hb'] at h1; exact h1.elim
end
end DP

/-! DpLc: comprehensions. -/
namespace DP
open PySem PySem.Spec
    PyProof.Rows L2

/-- a target that writes to none but the slots vs -/
def GLoc (g : TG) (vs : List Nat) : Prop := ∀ (x : V) (σ : L2.St) (H : Hp) (Q : L2.St → Hp → Prop), g x σ H (fun σ' H' => L2.wipe σ' vs = L2.wipe σ vs → Q σ' H') → g x σ H Q
def GLocs (t : TGs) (vs : List Nat) : Prop := ∀ (xs : List V) (σ : L2.St) (H : Hp) (Q : L2.St → Hp → Prop), t xs σ H (fun σ' H' => L2.wipe σ' vs = L2.wipe σ vs → Q σ' H') → t xs σ H Q
theorem wipe_set_in (σ : L2.St) (i : Nat) (v : Option V) : ∀ vs : List Nat, i ∈ vs → L2.wipe (σ.set i v) vs = L2.wipe σ vs
  | [], h => by simp at h
  | j :: vs, h => by
    show (L2.wipe (σ.set i v) vs).set j none = (L2.wipe σ vs).set j none
    by_cases hm : i ∈ vs
    · rw [wipe_set_in σ i v vs hm]
    · have hj : i = j := by simpa [hm] using h
      subst hj
      have : ∀ ws : List Nat, i ∉ ws → L2.wipe (σ.set i v) ws = (L2.wipe σ ws).set i v := by
        intro ws
        induction ws with
        | nil => intro _; rfl
        | cons w ws ih =>
          intro hw
          have h1 : i ≠ w := fun z => hw (by simp [z])
          have h2 : i ∉ ws := fun z => hw (by simp [z])
          show (L2.wipe (σ.set i v) ws).set w none = ((L2.wipe σ ws).set w none).set i v
          rw [ih h2, List.set_comm _ _ h1]
      rw [this vs hm, List.set_set]
theorem gl_name {vs : List Nat} {i : Nat} (h : i ∈ vs) : GLoc (gName i) vs := fun x σ H Q hq => hq (wipe_set_in σ i _ vs h)
theorem gls_nil {vs : List Nat} : GLocs gNil vs := fun xs σ H Q hq => ⟨hq.1, hq.2 rfl⟩
theorem gls_cons {vs : List Nat} {i : Nat} {t : TGs} (h : i ∈ vs) (ht : GLocs t vs) : GLocs (gCons (gName i) t) vs := fun xs σ H Q hq => by
  obtain ⟨z, r, hz, hq⟩ := hq
  refine ⟨z, r, hz, ?_⟩
  refine ht r _ H Q ?_
  rwa [wipe_set_in σ i _ vs h]
theorem gl_tup {vs : List Nat} {K : PySem.W.Frag} {n : Nat} {t : TGs} (ht : GLocs t vs) : GLoc (gTup K n t) vs := fun x σ H Q hq => by
  obtain ⟨a1, xs, a3, a4, a5, a6⟩ := hq
  exact ⟨a1, xs, a3, a4, a5, ht xs σ H Q a6⟩

section
variable {G : Gx} {P P2 F F1 H : Hp} {σ : L2.St} {Γ : Env}
theorem EnvOk.weakP (e : Same P P2) (env : EnvOk G P2 F H σ Γ) : EnvOk G P F H σ Γ where
  pf := e.trans env.pf
  fh := env.fh
  len := env.len
  slot := fun i s hs => by
    have h := env.slot i s hs
    cases s with
    | ow d =>
      obtain ⟨ad, h1, h2, h3⟩ := h
      refine ⟨ad, h1, ?_, h3⟩
      cases hp : P ad with
      | none => rfl
      | some u => rw [e _ _ hp] at h2; cases h2
    | no => exact h
    | sh d => exact h
    | ex c fs => exact h
  dis := env.dis
  me0 := env.me0
theorem Ext.weakP (e : Same P P2) (x : Ext P2 F F1) : Ext P F F1 := ⟨x.sub, fun ad o h => by
  rcases x.new ad o h with h | h
  · exact .inl h
  · refine .inr ?_
    cases hp : P ad with
    | none => rfl
    | some u => rw [e _ _ hp] at h; cases h⟩
open Classical in
noncomputable def pMax (H : Hp) (σ : L2.St) (Γ : Env) : Hp := fun ad => if Owned σ Γ ad then none else H ad
theorem pMax_sub (env : EnvOk G P F H σ Γ) : Same P (pMax H σ Γ) := fun ad o h => by
  have hn : ¬ Owned σ Γ ad := fun z => by rw [(env.owned z).1] at h; cases h
  unfold pMax
  rw [if_neg hn]
  exact env.pf _ _ h
theorem EnvOk.max (env : EnvOk G P F H σ Γ) : EnvOk G (pMax H σ Γ) F H σ Γ where
  pf := fun ad o h => by
    unfold pMax at h
    split at h
    · cases h
    · exact h
  fh := env.fh
  len := env.len
  slot := fun i s hs => by
    have h := env.slot i s hs
    cases s with
    | ow d =>
      obtain ⟨ad, h1, h2, h3⟩ := h
      exact ⟨ad, h1, if_pos ⟨i, d, hs, h1⟩, h3⟩
    | no => exact h
    | sh d => exact h
    | ex c fs => exact h
  dis := env.dis
  me0 := env.me0
theorem EnvOk.poke {ad : Addr} {u : HO} (env : EnvOk G P F H σ Γ) (hP : P ad = none) (hF : F ad = none) (hO : ¬ Owned σ Γ ad) : EnvOk G P F (upd H ad u) σ Γ where
  pf := fun b o e => by rw [upd_ne (ne_of_none e hP)]; exact env.pf b o e
  fh := fun b o e => by rw [upd_ne (ne_of_none e hF)]; exact env.fh b o e
  len := env.len
  slot := fun i s hs => (env.slot i s hs).mono (Same.refl _) fun b d hd hv => by
    subst hd
    have hne : b ≠ ad := fun z => hO ⟨i, d, hs, by rw [← z]; exact hv⟩
    obtain ⟨c, h1, _, h3, _⟩ := env.slot i _ hs
    rw [hv] at h1
    cases h1
    exact ⟨h3, upd_ne hne⟩
  dis := env.dis
  me0 := env.me0
theorem EnvOk.wipe (env : EnvOk G P F H σ Γ) : ∀ (vs : List Nat) (_ : G.me = none ∨ 0 ∉ vs), EnvOk G P F H (L2.wipe σ vs) (DP.wipe Γ vs)
  | [], _ => env
  | v :: vs, hz => by
    have e := EnvOk.wipe env vs (hz.imp id fun h z => h (List.mem_cons_of_mem _ z))
    exact e.setNo v (hz_of e (hz.imp id fun h z => h (by rw [z]; exact List.mem_cons_self)))
theorem EnvOk.unwipe {vs : List Nat} (env : EnvOk G P F H (L2.wipe σ vs) Γ) : EnvOk G P F H σ Γ where
  me0 := fun x hx => (wipe_some (env.me0 x hx)).1
  pf := env.pf
  fh := env.fh
  len := by rw [env.len, L2.wipe_length]
  slot := fun i s hs => by
    have h := env.slot i s hs
    cases s with
    | ow d =>
      obtain ⟨ad, h1, h2⟩ := h
      exact ⟨ad, (wipe_some h1).1 |> fun z => z, h2⟩
    | no => trivial
    | sh d =>
      obtain ⟨x, h1, h2⟩ := h
      exact ⟨x, (wipe_some h1).1, h2⟩
    | ex c fs =>
      obtain ⟨x, cls, d, h1, h2, h3⟩ := h
      exact ⟨x, cls, d, h1, (wipe_some h2).1, h3⟩
  dis := fun i j ad d e h1 h2 h3 h4 => by
    obtain ⟨x, k1, _⟩ := env.slot i _ h1
    obtain ⟨y, k2, _⟩ := env.slot j _ h2
    have z1 := (wipe_some k1).1
    have z2 := (wipe_some k2).1
    rw [h3] at z1
    rw [h4] at z2
    cases z1
    cases z2
    exact env.dis i j ad d e h1 h2 k1 k2
theorem Owned.wipe {vs : List Nat} {ad : Addr} (env : EnvOk G P F H (L2.wipe σ vs) Γ) (h : Owned σ Γ ad) : Owned (L2.wipe σ vs) Γ ad := by
  obtain ⟨i, d, h1, h2⟩ := h
  obtain ⟨x, k1, _⟩ := env.slot i _ h1
  have z1 := (wipe_some k1).1
  rw [h2] at z1
  cases z1
  exact ⟨i, d, h1, k1⟩
/-- a shared part that comes later holds nothing that P holds -/
theorem Ext.keepNone {ad : Addr} {u : HO} (x : Ext P F F1) (hF : F ad = none) (hP : P ad = some u) : F1 ad = none := by
  cases h : F1 ad with
  | none => rfl
  | some o =>
    rcases x.new ad o h with k | k
    · rw [hF] at k; cases k
    · rw [hP] at k; cases k
theorem EnvOk.notOwned {ad : Addr} {u : HO} (env : EnvOk G P F H σ Γ) (hP : P ad = some u) : ¬ Owned σ Γ ad := fun z => by
  rw [(env.owned z).1] at hP; cases hP
end

section
variable {G : Gx} {W : WX} {X : Cx} {elt tg iter : Expr} {ifs : List Expr} {scope : Scope} {own : List (Str × Nat)} {pos py spos : Pos}
def W0 : WX := fun _ _ _ _ => False
structure LcI (G : Gx) (P F1 : Hp) (σw : L2.St) (vs : List Nat) (tgD : Tg) (dt : DP.T) (de : DP.E) (res : List DP.D × Env) (ds : List DP.D) (Dd : Addr) (i : Nat) (H : Hp) (F' : Hp) (Γ0 : Env) (acc : List DP.D) (ys : List V) : Prop where
  ext : Ext P F1 F'
  env : EnvOk G P F' H σw Γ0
  fD : F' Dd = none
  oD : ¬ Owned σw Γ0 Dd
  pD : P Dd = none
  hD : H Dd = some (.lst ys)
  rep : Reps G F' acc ys
  run : lcLoop vs tgD dt de (ds.drop i) Γ0 acc = some res
theorem lc_tr {wi : TI} {g : TG} {tgD : Tg} {it : DP.It} {y : Bool} {dt : DP.T} {de : DP.E} {vs : List Nat} (hz : G.me = none ∨ 0 ∉ vs) (ti : TrI G W y wi it) (tr : TrG G y g tgD) (gl : GLoc g vs) (σ : L2.St) (H : Hp) (Q : VK) (hq : rd G W (eLc vs it tgD dt de) σ H Q) :
    tLc wi g (rdT G W0 dt) (rd G W0 de) vs σ H Q := by
  obtain ⟨P, F, Γ, env, h⟩ := hq
  unfold eLc at h
  refine ti σ H _ ⟨P, F, Γ, env, ?_⟩
  cases hit : it Γ with
  | exc c fs Γ1 => rw [hit] at h; exact h
  | stuck => rw [hit] at h; exact h.elim
  | ok ds Γ1 =>
    rw [hit] at h
    have h : (match (match lcLoop vs tgD dt de ds (DP.wipe Γ1 vs) [] with | some (es, Γ2) => DP.R.ok (Opd.fresh (.lst es)) Γ2 | none => .stuck) with
      | .ok o Γ' => Go G P F σ Γ' o Q | .exc c fs Γ' => GoX G W P F σ Γ' c fs | .stuck => False) := h
    intro J F1 H1 e1 env1 jok Dd hDn
    cases hl : lcLoop vs tgD dt de ds (DP.wipe Γ1 vs) [] with
    | none => rw [hl] at h; exact h.elim
    | some res =>
      rw [hl] at h
      obtain ⟨es, Γ2⟩ := res
      have hgo : Go G P F σ Γ2 (.fresh (.lst es)) Q := h
      have env2 := env1.wipe vs hz
      refine ⟨fun i m H' => m = ds.length - i ∧ i ≤ ds.length ∧ ∃ F' Γ0 acc ys, LcI G P F1 (L2.wipe σ vs) vs tgD dt de (es, Γ2) ds Dd i H' F' Γ0 acc ys, ⟨ds.length, by simp, Nat.zero_le _, F1, DP.wipe Γ1 vs, [], [], Ext.refl _ _, env2.new hDn, (env2.fresh_none hDn).1, ?_, (env2.fresh_none hDn).2, upd_same, rfl, hl⟩, ?_⟩
      · exact fun ⟨i, d, k1, k2⟩ => env2.notOwn hDn i d k1 k2
      · rintro i m H' ⟨rfl, hil, F', Γ', acc, ys, L⟩
        by_cases hlt : i < ds.length
        · refine .inr ⟨jok.go i H' (L.ext.sub.trans L.env.fh) hlt, fun H2 => ∃ F2 Γ2' acc2 ys2, LcI G P F1 (L2.wipe σ vs) vs tgD dt de (es, Γ2) ds Dd (i + 1) H2 F2 Γ2' acc2 ys2, fun H2 hN => ⟨ds.length - (i + 1), by omega, rfl, hlt, hN⟩, fun x H2 hy => ?_⟩
          have hd : ds[i]? = some ds[i] := List.getElem?_eq_getElem hlt
          have hrun := L.run
          rw [drop_at hlt] at hrun
          unfold lcLoop at hrun
          have hps := pMax_sub L.env
          have hpD : pMax H' (L2.wipe σ vs) Γ' Dd = some (.lst ys) := by
            unfold pMax
            rw [if_neg L.oD]
            exact L.hD
          obtain ⟨env3, hx⟩ := yok_env L.ext.sub L.env.max (jok.yld i H' ds[i] x H2 (L.ext.sub.trans L.env.fh) hd hy)
          cases ht : tgD ds[i] Γ' with
          | none => rw [ht] at hrun; cases hrun
          | some Γ3 =>
            rw [ht] at hrun
            refine gl x _ H2 _ (tr _ F' H2 _ Γ' Γ3 ds[i] x _ env3 hx ht fun σ3 env4 hw => ⟨hw.trans ?_, ?_⟩)
            · have : ∀ (σ : L2.St) (ws : List Nat), L2.wipe (L2.wipe σ ws) ws = L2.wipe σ ws := by
                intro σ ws
                induction ws with
                | nil => rfl
                | cons w ws ih =>
                  show (L2.wipe ((L2.wipe σ ws).set w none) ws).set w none = (L2.wipe σ ws).set w none
                  by_cases hm : w ∈ ws
                  · rw [wipe_set_in _ _ _ _ hm, ih]
                  · have : ∀ zs : List Nat, w ∉ zs → L2.wipe ((L2.wipe σ ws).set w none) zs = (L2.wipe (L2.wipe σ ws) zs).set w none := by
                      intro zs
                      induction zs with
                      | nil => intro _; rfl
                      | cons z zs ihz =>
                        intro hz
                        have h1 : w ≠ z := fun q => hz (by simp [q])
                        have h2 : w ∉ zs := fun q => hz (by simp [q])
                        show (L2.wipe ((L2.wipe σ ws).set w none) zs).set z none = ((L2.wipe (L2.wipe σ ws) zs).set z none).set w none
                        rw [ihz h2, List.set_comm _ _ h1]
                    rw [this ws hm, ih, List.set_set]
              exact this σ vs
            · have hw' : L2.wipe σ3 vs = L2.wipe σ vs := hw.trans (by
                have : ∀ (σ : L2.St) (ws : List Nat), L2.wipe (L2.wipe σ ws) ws = L2.wipe σ ws := by
                  intro σ ws
                  induction ws with
                  | nil => rfl
                  | cons w ws ih =>
                    show (L2.wipe ((L2.wipe σ ws).set w none) ws).set w none = (L2.wipe σ ws).set w none
                    by_cases hm : w ∈ ws
                    · rw [wipe_set_in _ _ _ _ hm, ih]
                    · have : ∀ zs : List Nat, w ∉ zs → L2.wipe ((L2.wipe σ ws).set w none) zs = (L2.wipe (L2.wipe σ ws) zs).set w none := by
                        intro zs
                        induction zs with
                        | nil => intro _; rfl
                        | cons z zs ihz =>
                          intro hz
                          have h1 : w ≠ z := fun q => hz (by simp [q])
                          have h2 : w ∉ zs := fun q => hz (by simp [q])
                          show (L2.wipe ((L2.wipe σ ws).set w none) zs).set z none = ((L2.wipe (L2.wipe σ ws) zs).set z none).set w none
                          rw [ihz h2, List.set_comm _ _ h1]
                      rw [this ws hm, ih, List.set_set]
                exact this σ vs)
              refine ⟨_, F', Γ3, env4, ?_⟩
              dsimp only at hrun
              cases hc : dt Γ3 with
              | exc c fs Γ4 => rw [hc] at hrun; cases hrun
              | stuck => rw [hc] at hrun; cases hrun
              | ok k Γ4 =>
                rw [hc] at hrun
                intro F4 H4 e4 env5
                have fD4 := e4.keepNone L.fD hpD
                cases k with
                | false =>
                  have hrun : lcLoop vs tgD dt de (ds.drop (i + 1)) (DP.wipe Γ4 vs) acc = some (es, Γ2) := hrun
                  simp only [Bool.false_eq_true,
                      if_false]
                  have env6 := env5.wipe vs hz
                  rw [hw'] at env6
                  exact ⟨F4, DP.wipe Γ4 vs, acc, ys, L.ext.trans (Ext.weakP hps e4), EnvOk.weakP hps env6, fD4, env6.notOwned hpD, L.pD, env5.pf _ _ hpD, L.rep.mono e4.sub, hrun⟩
                | true =>
                  simp only [if_true]
                  refine ⟨_, F4, Γ4, env5, ?_⟩
                  dsimp only at hrun
                  cases he : de Γ4 with
                  | exc c fs Γ5 => rw [he] at hrun; cases hrun
                  | stuck => rw [he] at hrun; cases hrun
                  | ok o Γ5 =>
                    rw [he] at hrun
                    intro v F5 H5 e5 env6 ho
                    dsimp only at hrun
                    cases hs : o.str with
                    | none => rw [hs] at hrun; cases hrun
                    | some d =>
                      rw [hs] at hrun
                      dsimp only at hrun
                      split at hrun
                      case isFalse => cases hrun
                      case isTrue hlen =>
                      obtain ⟨F6, e6, env7, r7⟩ := OpdOk.strong env6 ho hs
                      have fD6 := e6.keepNone (e5.keepNone fD4 hpD) hpD
                      have env8 := env7.wipe vs hz
                      rw [hw'] at env8
                      have rl := L.rep.length
                      refine ⟨ys, env6.pf _ _ hpD, by rw [rl]; exact line_lt hlen, F6, DP.wipe Γ5 vs, acc ++ [d], ys ++ [v], ?_, (EnvOk.weakP hps env8).poke L.pD fD6 (env8.notOwned hpD), fD6, env8.notOwned hpD, L.pD, upd_same, ?_, hrun⟩
                      · exact ((L.ext.trans (Ext.weakP hps e4)).trans (Ext.weakP hps e5)).trans (Ext.weakP hps e6)
                      · exact (((L.rep.mono e4.sub).mono e5.sub).mono e6.sub).append (Reps.one r7)
        · have hie : i = ds.length := by omega
          subst hie
          have hrun := L.run
          rw [List.drop_length] at hrun
          have hrun : some (acc, Γ') = some (es, Γ2) := hrun
          cases hrun
          refine .inl ⟨jok.stop H' (L.ext.sub.trans L.env.fh), hgo (.ref Dd) F' H' (e1.trans L.ext) L.env.unwipe ⟨Dd, rfl, L.pD, L.fD, ⟨ys, L.hD, L.rep⟩, fun j e k1 k2 => L.oD (Owned.wipe L.env ⟨j, e, k1, k2⟩)⟩⟩
theorem de_lc {wi : TI} {g : TG} {tgD : Tg} {it : DP.It} {y : Bool} {dt : DP.T} {de : DP.E} {vs : List Nat} (hc : X.calm = true) (hN : X.N.Nodup) (hi : PI X tg iter wi) (ti : TrI G W y wi it) (ok : BlkOk X.N X.env.scope scope own)
    (hg : ∀ (s : Shared) (H : Hp) (C : Addr) (cl : List (Str × Addr)) (fp : List Addr), PG (X.blk s H scope (compEnvC scope cl C X.env) fp) tg g) (tr : TrG G y g tgD) (gl : GLoc g vs)
    (ht : ∀ (s : Shared) (H : Hp) (C : Addr) (cl : List (Str × Addr)) (fp : List Addr), PTs (X.blk s H scope (compEnvC scope cl C X.env) fp) ifs (rdT G W0 dt))
    (he : ∀ (s : Shared) (H : Hp) (C : Addr) (cl : List (Str × Addr)) (fp : List Addr), PE (X.blk s H scope (compEnvC scope cl C X.env) fp) elt (rd G W0 de))
    (hs : ∀ x, foldedSetIterable iter X.env x = pure x := by intro _; rfl) (hvs : (own.map fun z => z.2) = vs := by rfl) (hz : G.me = none ∨ 0 ∉ vs := by first | exact .inl rfl | exact .inr (by decide)) :
    PE X (.ListComp elt [⟨tg, iter, ifs, 0⟩] scope pos) (rd G W (eLc vs it tgD dt de)) := by
  subst hvs
  exact PE_imp (pe_lc hc hN hi ok hg ht he hs) (lc_tr hz ti tr gl)
theorem ds_setLc {x : Str} {wi : TI} {g : TG} {tgD : Tg} {it : DP.It} {y : Bool} {dt : DP.T} {de : DP.E} {vs : List Nat} (i : Nat) (hc : X.calm = true) (hN : X.N.Nodup) (hy : X.N[i]? = some x) (hyl : X.env.scope.names.lookup x = some .local)
    (hsw : swapsWith (.ListComp elt [⟨tg, iter, ifs, 0⟩] scope pos) (some (.Name x py)) spos.line X.env = pure true) (hi : PI X tg iter wi) (ti : TrI G W y wi it) (ok : BlkOk X.N X.env.scope scope own)
    (hg : ∀ (s : Shared) (H : Hp) (C : Addr) (cl : List (Str × Addr)) (fp : List Addr), PG (X.blk s H scope (compEnvC scope cl C X.env) fp) tg g) (tr : TrG G y g tgD) (gl : GLoc g vs)
    (ht : ∀ (s : Shared) (H : Hp) (C : Addr) (cl : List (Str × Addr)) (fp : List Addr), PTs (X.blk s H scope (compEnvC scope cl C X.env) fp) ifs (rdT G W0 dt))
    (he : ∀ (s : Shared) (H : Hp) (C : Addr) (cl : List (Str × Addr)) (fp : List Addr), PE (X.blk s H scope (compEnvC scope cl C X.env) fp) elt (rd G W0 de))
    (hs : ∀ x, foldedSetIterable iter X.env x = pure x := by intro _; rfl) (hvs : (own.map fun z => z.2) = vs := by rfl) (hz : G.me = none ∨ 0 ∉ vs := by first | exact .inl rfl | exact .inr (by decide)) (hzi : G.me = none ∨ i ≠ 0 := by first | exact .inl rfl | exact .inr (by decide)) :
    PS X (.Assign [.Name x py] (.ListComp elt [⟨tg, iter, ifs, 0⟩] scope pos) spos) (rs G W (sSet i (eLc vs it tgD dt de))) := by
  subst hvs
  exact PS_imp (ps_setLc hc hN hy hyl hsw hi ok hg ht he hs) fun D σ H hq => lc_tr hz ti tr gl σ H _ (set_tr i hzi D σ H hq)
theorem dts_nil : PTs X [] (rdT G W tYes) := ⟨fun pins s σ H Q I hq => pts_nil.run pins s σ H Q I (by
  obtain ⟨P, F, Γ, env, h⟩ := hq
  exact h F H (Ext.refl _ _) env)⟩
theorem dts_one {c : Expr} {t : DP.T} (h : PT X c (rdT G W t)) : PTs X [c] (rdT G W t) := pts_one h
end
end DP

/-! DpTry: try, except X as e; a def kept. -/
namespace DP
open PySem PySem.Spec
    PyProof.Rows L2

section
variable {G : Gx} {W : WX} {X : Cx} {body suite : List Stmt} {b₀ : Stmt} {np pos pos' p : Pos} {x n : Str} {c : Value} {dx : Option Addr}
/-- of the classes that the table names it is known whether c takes them -/
def SubOk (K : PySem.W.Frag) (mg : Str → Option Value) (c : Value) (sub : Str → Option Bool) : Prop := ∀ cn b cls, sub cn = some b → mg cn = some cls → PySem.W.exmOne K cls c = some b
def Gx.hold (G : Gx) (a : Addr) (cls : Value) (d : Option Addr) : Gx := { G with χ := some (a, cls, d) }
end
section
variable {G G' : Gx} {F H : Hp}
mutual
theorem Rep.cg (hK : G.K = G'.K) (hm : G.mg = G'.mg) : ∀ {d : D} {v : V}, Rep G F d v → Rep G' F d v
  | .non, _, h => h
  | .bl _, _, h => h
  | .int _, _, h => h
  | .str _, _, h => h
  | .tup ds, _, h => by
    obtain ⟨a, xs, rfl, h1, h2⟩ := h
    exact ⟨a, xs, rfl, by rw [← hK]; exact h1, Reps.cg hK hm h2⟩
  | .lst ds, _, h => by
    obtain ⟨a, xs, rfl, h1, h2⟩ := h
    exact ⟨a, xs, rfl, h1, Reps.cg hK hm h2⟩
  | .scr ds, _, h => by
    obtain ⟨a, xs, rfl, h1, h2⟩ := h
    exact ⟨a, xs, rfl, by rw [← hK]; exact h1, Reps.cg hK hm h2⟩
  | .dK ds, _, h => by
    obtain ⟨a, xs, rfl, h1, h2⟩ := h
    exact ⟨a, xs, rfl, h1, RepK.cg hK hm h2⟩
  | .dT ds, _, h => by
    obtain ⟨a, xs, rfl, h1, h2⟩ := h
    exact ⟨a, xs, rfl, h1, RepT.cg hK hm h2⟩
  | .ins c ds, _, h => by
    obtain ⟨a, C, dx, xs, rfl, h1, h2, h3⟩ := h
    exact ⟨a, C, dx, xs, rfl, h1, by rw [← hm]; exact h2, RepF.cg hK hm h3⟩
theorem Reps.cg (hK : G.K = G'.K) (hm : G.mg = G'.mg) : ∀ {ds : List D} {vs : List V}, Reps G F ds vs → Reps G' F ds vs
  | [], _, h => h
  | d :: ds, _, h => by
    obtain ⟨v, r, rfl, h1, h2⟩ := h
    exact ⟨v, r, rfl, Rep.cg hK hm h1, Reps.cg hK hm h2⟩
theorem RepK.cg (hK : G.K = G'.K) (hm : G.mg = G'.mg) : ∀ {ds : List (Sum Int Str × D)} {vs : List (Key × V)}, RepK G F ds vs → RepK G' F ds vs
  | [], _, h => h
  | (k, d) :: ds, _, h => by
    obtain ⟨v, r, rfl, h1, h2⟩ := h
    exact ⟨v, r, rfl, Rep.cg hK hm h1, RepK.cg hK hm h2⟩
theorem RepT.cg (hK : G.K = G'.K) (hm : G.mg = G'.mg) : ∀ {ds : List (List (Sum Int Str) × D)} {vs : List (List Key × V)}, RepT G F ds vs → RepT G' F ds vs
  | [], _, h => h
  | (k, d) :: ds, _, h => by
    obtain ⟨v, r, rfl, h1, h2⟩ := h
    exact ⟨v, r, rfl, Rep.cg hK hm h1, RepT.cg hK hm h2⟩
theorem RepF.cg (hK : G.K = G'.K) (hm : G.mg = G'.mg) : ∀ {ds : List (Str × D)} {vs : List (Str × V)}, RepF G F ds vs → RepF G' F ds vs
  | [], _, h => h
  | (k, d) :: ds, _, h => by
    obtain ⟨v, r, rfl, h1, h2⟩ := h
    exact ⟨v, r, rfl, Rep.cg hK hm h1, RepF.cg hK hm h2⟩
end
theorem ExcOk.cg {H' : Hp} {cn : Str} {fs : List D} {cls : Value} {d : Option Addr} (hK : G.K = G'.K) (hm : G.mg = G'.mg) (h : ExcOk G F cn fs cls d H') : ExcOk G' F cn fs cls d H' := by
  obtain ⟨h1, h2 | ⟨fl, dd, xs, h3, h4, h5, h6⟩⟩ := h
  · exact ⟨by rw [← hm]; exact h1, .inl h2⟩
  · exact ⟨by rw [← hm]; exact h1, .inr ⟨fl, dd, xs, h3, h4, h5, RepF.cg hK hm h6⟩⟩
theorem OwnAt.cg (hK : G.K = G'.K) (hm : G.mg = G'.mg) {d : D} {a : Addr} (h : OwnAt G F H d a) : OwnAt G' F H d a := by
  cases d with
  | lst ds => obtain ⟨xs, h1, h2⟩ := h; exact ⟨xs, h1, h2.cg hK hm⟩
  | dK ds => obtain ⟨xs, h1, h2⟩ := h; exact ⟨xs, h1, h2.cg hK hm⟩
  | dT ds => obtain ⟨xs, h1, h2⟩ := h; exact ⟨xs, h1, h2.cg hK hm⟩
  | ins c ds => obtain ⟨C, dx, xs, h1, h2, h3⟩ := h; exact ⟨C, dx, xs, h1, by rw [← hm]; exact h2, h3.cg hK hm⟩
  | _ => exact h.elim
end
section
variable {G : Gx} {W : WX} {X : Cx} {body suite : List Stmt} {b₀ : Stmt} {np pos pos' p : Pos} {x n : Str} {c : Value} {dx : Option Addr}
theorem Rep.hold {a : Addr} {cls : Value} {F : Hp} {d : D} {v : V} : Rep (G.hold a cls dx) F d v ↔ Rep G F d v := ⟨fun h => Rep.cg (G := G.hold a cls dx) (G' := G) rfl rfl h, fun h => Rep.cg (G := G) (G' := G.hold a cls dx) rfl rfl h⟩

section
variable {P F H : Hp} {σ : L2.St} {Γ : Env}
theorem EnvOk.hold {a : Addr} {cls : Value} (hχ : G.χ = none) (env : EnvOk G P F H σ Γ) : EnvOk (G.hold a cls dx) P F H σ Γ where
  pf := env.pf
  fh := env.fh
  len := env.len
  slot := fun i s hs => by
    have h := env.slot i s hs
    cases s with
    | ow d =>
      obtain ⟨ad, h1, h2, h3, h4⟩ := h
      exact ⟨ad, h1, h2, h3, OwnAt.cg (G := G) (G' := G.hold a cls dx) rfl rfl h4⟩
    | no => exact h
    | sh d => obtain ⟨v, h1, h2⟩ := h; exact ⟨v, h1, Rep.hold.mpr h2⟩
    | ex c fs => obtain ⟨ad, z, _, h1, _⟩ := h; rw [hχ] at h1; cases h1
  dis := env.dis
  me0 := env.me0
theorem unSlot_get {i j : Nat} {s : Slot} (h : (unEx j Γ)[i]? = some s) : (∃ s', (Γ.set j .no)[i]? = some s' ∧ s = unSlot s') := by
  unfold unEx at h
  rw [List.getElem?_map] at h
  cases e : (Γ.set j .no)[i]? with
  | none =>
      rw [e] at h; cases h
  | some s' => rw [e] at h; cases h; exact ⟨s', rfl, rfl⟩
theorem unSlot_ow {s : Slot} {d : D} (h : unSlot s = .ow d) : s = .ow d := by
  cases s with
  | ow e => exact h
  | _ => cases h
theorem EnvOk.unHold {a : Addr} {cls : Value} {v : Option V} {j : Nat} (hz : G.me = none ∨ j ≠ 0) (env : EnvOk (G.hold a cls dx) P F H σ Γ) : EnvOk G P F H (σ.set j v) (unEx j Γ) := by
  have e2 := env.setNo (v := v) j (hz_of env hz)
  refine ⟨e2.pf, e2.fh, ?_, fun i s hs => ?_, fun i k ad d e h1 h2 h3 h4 => ?_, e2.me0⟩
  · have := e2.len
    unfold unEx
    rw [List.length_map]
    exact this
  · obtain ⟨s', h1, rfl⟩ := unSlot_get hs
    have h := e2.slot i s' h1
    cases s' with
    | ow d =>
      obtain ⟨ad, h1, h2, h3, h4⟩ := h
      exact ⟨ad, h1, h2, h3, OwnAt.cg (G := G.hold a cls dx) (G' := G) rfl rfl h4⟩
    | no => trivial
    | sh d => obtain ⟨v, h1, h2⟩ := h; exact ⟨v, h1, Rep.hold.mp h2⟩
    | ex c fs => trivial
  · obtain ⟨s1, k1, z1⟩ := unSlot_get h1
    obtain ⟨s2, k2, z2⟩ := unSlot_get h2
    exact e2.dis i k ad d e (by rw [k1, unSlot_ow z1.symm]) (by rw [k2, unSlot_ow z2.symm]) h3 h4
theorem ExcOk.hold {a : Addr} {cls c' : Value} {d : Option Addr} {cn : Str} {fs : List D} (h : ExcOk G F cn fs c' d F) : ExcOk (G.hold a cls dx) F cn fs c' d F := by
  obtain ⟨h1, h2 | ⟨fl, dd, xs, h3, h4, h5, h6⟩⟩ := h
  · exact ⟨h1, .inl h2⟩
  · exact ⟨h1, .inr ⟨fl, dd, xs, h3, h4, h5, RepF.cg (G := G) (G' := G.hold a cls dx) rfl rfl h6⟩⟩
theorem EnvOk.setEx {a : Addr} {cls : Value} {cn : Str} {fs : List D} {i : Nat} (hz : G.me = none ∨ i ≠ 0) (hχ : G.χ = none) (hm : ExcOk G F cn fs cls dx F) (env : EnvOk G P F H σ Γ) : EnvOk (G.hold a cls dx) P F H (σ.set i (some (.ref a))) (Γ.set i (.ex cn fs)) := by
  have e2 := (env.setNo (v := some (.ref a)) i (hz_of env hz)).hold (a := a) (cls := cls) (dx := dx) hχ
  refine ⟨e2.pf, e2.fh, ?_, fun k s hs => ?_, fun k l ad d e h1 h2 h3 h4 => ?_, e2.me0⟩
  · have := e2.len
    rw [List.length_set] at this ⊢
    exact this
  · by_cases hk : i = k
    · subst hk
      have hl : i < Γ.length := by
        have := (List.getElem?_eq_some_iff.mp hs).1
        rwa [List.length_set] at this
      rw [List.getElem?_set_self hl] at hs
      cases hs
      refine ⟨a, cls, dx, rfl, ?_, hm.hold⟩
      rw [List.getElem?_set_self (by rw [← env.len]; exact hl)]
    · rw [List.getElem?_set_ne hk] at hs
      exact e2.slot k s (by rw [List.getElem?_set_ne hk]; exact hs)
  · have hk : i ≠ k := fun z => by
      subst z
      have hl : i < Γ.length := by
        have := (List.getElem?_eq_some_iff.mp h1).1
        rwa [List.length_set] at this
      rw [List.getElem?_set_self hl] at h1
      cases h1
    have hl : i ≠ l := fun z => by
      subst z
      have hl : i < Γ.length := by
        have := (List.getElem?_eq_some_iff.mp h2).1
        rwa [List.length_set] at this
      rw [List.getElem?_set_self hl] at h2
      cases h2
    rw [List.getElem?_set_ne hk] at h1
    rw [List.getElem?_set_ne hl] at h2
    exact e2.dis k l ad d e (by rw [List.getElem?_set_ne hk]; exact h1) (by rw [List.getElem?_set_ne hl]; exact h2) h3 h4
end

theorem ExcOk.mono0 {F H : Hp} {cls : Value} {d : Option Addr} {cn : Str} {fs : List D} (h : ExcOk G F cn fs cls d H) : ExcOk G F cn fs cls d F := h
theorem ds_try {sub : Str → Option Bool} {db ds : DP.S} (i : Nat) (hχ : G.χ = none) (ok : Ok G X) (hs : X.stack = X.env :: X.outer) (hf : X.env.frame = some X.env.locals) (hN : X.N.Nodup) (hi : X.N[i]? = some n) (hln : X.env.kindOf n = some .local) (hc : Names X x c) (tk : Takes X W)
    (hsub : SubOk X.K X.mg c sub)
    (hb : ∀ (W' : WX) (pn : List (Addr × Obj)) (xe : Value → Shared → Prop), Takes (X.tr pn xe) W' → PassesOwn (model X.prog X.w) X.A X.env xe → PSs (X.tr pn xe) body (rs G W' db))
    (hsu : ∀ (a : Addr) (oe : Obj) (cls : Value) (dx : Option Addr) (pn : List (Addr × Obj)), Zc cls dx oe → (∃ vs, oe.data = .fields vs) → PSs (X.suite a ((a, oe) :: pn)) (b₀ :: suite) (rs (G.hold a cls dx) W0 ds)) (hz : G.me = none ∨ i ≠ 0 := by first | exact .inl rfl | exact .inr (by decide)) :
    PS X (.Try body [.ExceptHandler (some (.Name x np)) (some n) (b₀ :: suite) pos'] [] [] pos) (rs G W (sTry sub i db ds)) := by
  refine PS_imp (ps_try_as (tb := fun W' => rs G W' db) (ts := fun a cls dx D σ H => rs (G.hold a cls dx) W0 ds D σ H) (Wout := W) (c := c) (i := i) hs hf hN hi hln hc tk hb hsu) fun D σ H hq => ?_
  · obtain ⟨P, F, Γ, env, h⟩ := hq
    have h : SPost G W P F D (sTry sub i db ds Γ) := h
    unfold sTry at h
    refine ⟨P, F, Γ, env, ?_⟩
    cases hb' : db Γ with
    | next Γ1 => rw [hb'] at h; exact h
    | ret d => rw [hb'] at h; exact h
    | brk Γ1 => rw [hb'] at h; exact h
    | cont Γ1 => rw [hb'] at h; exact h
    | stuck => rw [hb'] at h; exact h
    | exc cn fs Γ1 =>
      rw [hb'] at h
      dsimp only at h
      intro σ1 F1 H1 cls d e1 env1 ex
      have x1 := ex.1
      cases hsb : sub cn with
      | none => rw [hsb] at h; exact h.elim
      | some k =>
        have hexm := hsub cn k cls hsb (by rw [← ok.mg]; exact x1)
        rw [hsb] at h
        cases k with
        | false => exact ⟨false, hexm, fun z => Bool.noConfusion z, fun _ => h σ1 F1 H1 cls d e1 env1 ex⟩
        | true =>
          refine ⟨true, hexm, fun _ a ha => ⟨P, F1, Γ1.set i (.ex cn fs), env1.setEx hz hχ ex.mono0, ?_⟩, fun z => Bool.noConfusion z⟩
          dsimp only at h
          cases hsu' : ds (Γ1.set i (.ex cn fs)) with
          | next Γ2 => rw [hsu'] at h; exact fun σ2 F2 H2 e2 env2 => h _ F2 H2 (e1.trans e2) (env2.unHold hz)
          | brk Γ2 => rw [hsu'] at h; exact fun σ2 F2 H2 e2 env2 => h _ F2 H2 (e1.trans e2) (env2.unHold hz)
          | cont Γ2 => rw [hsu'] at h; exact fun σ2 F2 H2 e2 env2 => h _ F2 H2 (e1.trans e2) (env2.unHold hz)
          | ret d => rw [hsu'] at h; exact fun v F2 H2 e2 s1 s2 r => h v F2 H2 (e1.trans e2) s1 s2 (Rep.hold.mp r)
          | exc c2 fs2 Γ2 => rw [hsu'] at h; exact h.elim
          | stuck => rw [hsu'] at h; exact h.elim
/-- isinstance(e, T), e what the suite holds -/
def KitsOk (K : PySem.W.Frag) (mg : Str → Option Value) (cv : Value) (sub : Str → Option Bool) : Prop := ∀ cn b, sub cn = some b → ∀ cls, mg cn = some cls → ∃ Dc, cls = .ref Dc ∧ ExcC K Dc ∧ PySem.W.kitOne K cls cv = some b
theorem de_isX {sub : Str → Option Bool} {a : Addr} {oe : Obj} {cls : Value} {pn : List (Addr × Obj)} {T : Str} {pT px : Pos} {cv : Addr} (i : Nat) (ok : Ok G X) (hz : Zc cls dx oe) (hfl : ∃ vs, oe.data = .fields vs) (hk : KitsOk X.K X.mg (.ref cv) sub)
    (hg : Gl X "isinstance") (hm : X.mg "isinstance" = none) (hN : X.N[i]? = some x) (hv : Vis X.env.scope x) (hgT : Gl X T) (hmT : X.mg T = some (.ref cv))
    (hd : (x == ("__debug__" : Str)) = false := by decide) (hcd : (x == ("__classdict__" : Str)) = false := by decide) (hdT : (T == ("__debug__" : Str)) = false := by decide)
    (he : starEach ((.Name x px) :: [.Name T pT]) X.env = (false, eval (.Name x px) X.env) :: starEach [.Name T pT] X.env := by rfl) (he2 : starEach [.Name T pT] X.env = (false, eval (.Name T pT) X.env) :: starEach [] X.env := by rfl) (hpl : (backTo pos (starEach [.Name T pT] X.env)).any (·.1) = false := by rfl) :
    PE (X.suite a ((a, oe) :: pn)) (.Call (.Name "isinstance" p) [.Name x px, .Name T pT] [] pos) (rd (G.hold a cls dx) W (eIsX sub i)) := by
  refine ⟨fun pins s σ H Q I hq =>
      ?_⟩
  obtain ⟨P, F, Γ, env, h⟩ := hq
  unfold eIsX at h
  cases hs : Γ[i]? with
  | none => rw [hs] at h; exact h.elim
  | some sl =>
    rw [hs] at h
    cases sl with
    | ex c fs =>
      obtain ⟨a', cls', d', h1, h2, h3⟩ := env.slot i _ hs
      cases h1
      cases fs with
      | cons _ _ => exact h.elim
      | nil =>
      obtain ⟨h3, ⟨_, rfl⟩ | ⟨_, _, _, hh, _⟩⟩ := h3
      rotate_left
      · cases hh
      dsimp only at h
      cases hsb : sub c with
      | none => rw [hsb] at h; exact h.elim
      | some k =>
        rw [hsb] at h
        obtain ⟨Dc, rfl, xc, kit⟩ := hk c k hsb cls (by rw [← ok.mg]; exact h3)
        have hT : PE (X.suite a ((a, oe) :: pn)) (.Name T pT) (tC (.ref cv)) := pe_glob hgT hmT rfl hdT
        have hx : PE (X.suite a ((a, oe) :: pn)) (.Name x px) (tVar i) := pe_var hN hv hd hcd
        refine (pe_callB (call_isE xc hz hfl) hg hm (by decide +kernel) (pa_cons hx (pa_cons hT pa_nil he2) he) (by decide) (by decide) he hpl).run pins s σ H Q I ?_
        exact ⟨.ref a, h2, .ref cv, .ref cv, k, rfl, fun u hu => hu, kit, h (.bl k) F H (Ext.refl _ _) env rfl⟩
    | no => exact h.elim
    | sh d => exact h.elim
    | ow d => exact h.elim


/-- try, except X: the suite may raise -/
theorem ds_tryX {sub : Str → Option Bool} {db ds : DP.S} (ok : Ok G X) (hs : X.stack = X.env :: X.outer) (hf : X.env.frame = some X.env.locals) (hc : Names X x c) (hpa : ∀ hd : Option Value, PassesOwnAt (model X.prog X.w) (X.A.mark hd) X.A X.env X.xe) (tk : Takes X W)
    (hsub : SubOk X.K X.mg c sub)
    (hb : ∀ (W' : WX) (pn : List (Addr × Obj)) (xe : Value → Shared → Prop), L2N.Takes (X.tr pn xe) W' → PassesOwn (model X.prog X.w) X.A X.env xe → PSs (X.tr pn xe) body (rs G W' db))
    (hsu : ∀ (a : Addr) (oe : Obj) (pn : List (Addr × Obj)), Takes (L2H.suiteX X a ((a, oe) :: pn)) W → L2H.HotC (L2H.suiteX X a ((a, oe) :: pn)) → PSs (L2H.suiteX X a ((a, oe) :: pn)) (b₀ :: suite) (rs G W ds)) :
    PS X (.Try body [.ExceptHandler (some (.Name x np)) none (b₀ :: suite) pos'] [] [] pos) (rs G W (sTryX sub db ds)) := by
  refine PS_imp (L2H.ps_try_onlyX (tb := fun W' => rs G W' db) (ts := fun _ _ _ D σ H => rs G W ds D σ H) (Wout := W) (c := c) hs hf hc hpa tk (fun W' pn xe t1 _ t3 => hb W' pn xe t1 t3) (fun a oe cls d pn _ _ t1 t2 => hsu a oe pn t1 t2)) fun D σ H hq => ?_
  obtain ⟨P, F, Γ, env, h⟩ := hq
  have h : SPost G W P F D (sTryX sub db ds Γ) := h
  unfold sTryX at h
  refine ⟨P, F, Γ, env, ?_⟩
  cases hb' : db Γ with
  | next Γ1 => rw [hb'] at h; exact h
  | ret d => rw [hb'] at h; exact h
  | brk Γ1 => rw [hb'] at h; exact h
  | cont Γ1 => rw [hb'] at h; exact h
  | stuck => rw [hb'] at h; exact h
  | exc cn fs Γ1 =>
    rw [hb'] at h
    dsimp only at h
    intro σ1 F1 H1 cls d e1 env1 ex
    cases hsb : sub cn with
    | none => rw [hsb] at h; exact h.elim
    | some k =>
      have hexm := hsub cn k cls hsb (by rw [← ok.mg]; exact ex.1)
      rw [hsb] at h
      cases k with
      | false => exact ⟨false, hexm, fun z => Bool.noConfusion z, fun _ => h σ1 F1 H1 cls d e1 env1 ex⟩
      | true => exact ⟨true, hexm, fun _ a ha => ⟨P, F1, Γ1, env1, SPost.ext e1 h⟩, fun z => Bool.noConfusion z⟩
/-- of the classes named it is known that their instances' field f is their own -/
def XfsOk (K : PySem.W.Frag) (mg : Str → Option Value) (cs : List Str) (f : Str) : Prop := ∀ cn, cs.contains cn = true → ∀ cls, mg cn = some cls → ∃ C, cls = .ref C ∧ XfC K C ∧ PySem.W.findIn K (.ref C) f = some none
theorem xf_look {G : Gx} {F : Hp} {f : Str} {d : D} : ∀ {fl : List (Str × D)} {xs : List (Str × V)}, RepF G F fl xs → fl.lookup f = some d → ∃ v, xs.lookup f = some v ∧ Rep G F d v
  | [], _, _, h => by simp at h
  | (g, x) :: r, _, h, hl => by
    obtain ⟨v, s, rfl, h1, h2⟩ := h
    by_cases hb : f = g
    · subst hb
      have : x = d := by simpa [List.lookup] using hl
      subst this
      exact ⟨v, by simp [List.lookup], h1⟩
    · have hb' : (f == g) = false := by simpa using hb
      have h3 : r.lookup f = some d := by simpa [List.lookup, hb'] using hl
      obtain ⟨v2, k1, k2⟩ := xf_look h2 h3
      exact ⟨v2, by simpa [List.lookup, hb'] using k1, k2⟩
theorem de_xf {cs : List Str} {f : Str} {a : Addr} {oe : Obj} {cls : Value} {pn : List (Addr × Obj)} {px pa : Pos} (i : Nat) (ok : Ok G X) (hz : Zc cls dx oe) (hfl : ∃ vs, oe.data = .fields vs) (hk : XfsOk X.K X.mg cs f)
    (hN : X.N[i]? = some x) (hv : Vis X.env.scope x)
    (hd : (x == ("__debug__" : Str)) = false := by decide) (hcd
        : (x == ("__classdict__" : Str)) = false := by decide)
    (hb : attributeBase (.Name x px) f X.env (eval (.Name x px) X.env) = eval (.Name x px) X.env := by rfl) :
    PE (X.suite a ((a, oe) :: pn)) (.Attribute (.Name x px) f pa) (rd (G.hold a cls dx) W (eXf cs f i)) := by
  refine ⟨fun pins s σ H Q I hq =>
      ?_⟩
  obtain ⟨P, F, Γ, env, h⟩ := hq
  unfold eXf at h
  cases hs : Γ[i]? with
  | none => rw [hs] at h; exact h.elim
  | some sl =>
    rw [hs] at h
    cases sl with
    | ex c fs =>
      obtain ⟨a', cls', d', h1, h2, h3⟩ := env.slot i _ hs
      cases h1
      obtain ⟨h3, ⟨rfl, _⟩ | ⟨fl, dd, xs, rfl, rfl, k3, k4⟩⟩ := h3
      · exact h.elim
      dsimp only at h
      by_cases hc : cs.contains c = true
      · simp only [hc, if_true] at h
        obtain ⟨C, rfl, xc, hno⟩ := hk c hc cls (by rw [← ok.mg]; exact h3)
        cases hl : fl.lookup f with
        | none => rw [hl] at h; exact h.elim
        | some d =>
          rw [hl] at h
          obtain ⟨v, e1, e2⟩ := xf_look k4 hl
          have hx : PE (X.suite a ((a, oe) :: pn)) (.Name x px) (tVar i) := pe_var hN hv hd hcd
          refine (pe_xf xc hno hz hfl hx hb).run pins s σ H Q I ?_
          exact ⟨.ref a, h2, rfl, rfl, dd, xs, v, rfl, env.fh _ _ k3, e1, h v F H (Ext.refl _ _) env e2⟩
      · simp only [hc, Bool.false_eq_true, if_false] at h
    | no => exact h.elim
    | sh d => exact h.elim
    | ow d => exact h.elim
end
end DP

/-! DpEnd: a def keeps its promise; the law's end. -/
namespace DP
open PySem PySem.Spec
    PyProof.Rows L2

theorem env_start {G : Gx} {F H : Hp} {ds : List D} {vs : List V} {N : List Str} {n : Nat} (hme : G.me = none) (hF : Same F H) (r : Reps G F ds vs) (hN : N.length = n) (hl : ds.length ≤ n) : EnvOk G H F H (L2.start N vs) (startEnv n ds) where
  pf := Same.refl _
  fh := hF
  len := by
    unfold startEnv L2.start
    simp only [List.length_append, List.length_map, List.length_replicate]
    rw [r.length, hN]
  slot := fun i s hs => by
    unfold startEnv at hs
    unfold L2.start
    by_cases hi : i < ds.length
    · rw [List.getElem?_append_left (by rw [List.length_map]; exact hi), List.getElem?_map] at hs
      rw [List.getElem?_append_left (by rw [List.length_map, r.length]; exact hi), List.getElem?_map]
      cases e : ds[i]? with
      | none => rw [e] at hs; cases hs
      | some d =>
        rw [e] at hs
        cases hs
        obtain ⟨v, hv, hr⟩ := r.get e
        exact ⟨v, by rw [hv]; rfl, hr⟩
    · rw [List.getElem?_append_right (by rw [List.length_map]; omega)] at hs
      have := List.mem_of_getElem? hs
      rw [List.mem_replicate] at this
      rw [this.2]
      trivial
  me0 := fun x hx => by rw [hme] at hx; cases hx
  dis := fun i j ad d e h1 => by
    unfold startEnv at h1
    by_cases hi : i < ds.length
    · rw [List.getElem?_append_left (by rw [List.length_map]; exact hi), List.getElem?_map] at h1
      cases e : ds[i]? with
      | none => rw [e] at h1; cases h1
      | some d => rw [e] at h1; cases h1
    · rw [List.getElem?_append_right (by rw [List.length_map]; omega)] at h1
      have := List.mem_of_getElem? h1
      rw [List.mem_replicate] at this
      cases this.2

section
variable {P : Program} {w : World} {K : PySem.W.Frag}
    {mg : Str → Option Value} {base : Heap}
/-- a def by its body, whatever form its exceptions have -/
theorem okAny {cx : CXT} {x qual : Str} {st : Stmt} {f : Addr} {fd : FuncData} {N ps : List Str} {k : Nat} {sp : Sp} (Fu : Fun K x qual st f fd) (S : FnScope N ps (defScope st)) (len : ∀ vs H Q E, sp vs H Q E → vs.length = ps.length)
    (hbody : ∀ (cdv : Value) (A : Around) (outer : List PySem.Env) (s : Shared) (H : Hp) (vs : List V) (Q : VK) (E : XK), Room k (A.deeper (envOfC qual (defScope st) s.heap.objs.size f cdv)) → sp vs H Q E →
      ∃ t, PSs (cxOf cx P w K mg base N qual (defScope st) f cdv A outer s H E) (defBody st) t ∧ t { nx := fun _ H' => Q .non H', rt := Q } (L2.start N vs) H) : FnOk P w K mg base cx (k + 1) f fd ps sp := by
  obtain ⟨oc, od, kV, doc, pm, an, cdv, ct, osl, rfl, lk, hcd⟩ := Fu.ex
  exact fn_of lk hcd S len fun A outer s H vs Q E hr hsp =>
      hbody cdv A outer s H vs Q E hr hsp
theorem okD {cx : CXT} {x qual : Str} {st : Stmt} {f : Addr} {fd : FuncData} {N ps : List Str} {k np n : Nat} {den : DP.S} (Fu : Fun K x qual st f fd) (S : FnScope N ps (defScope st)) (hN : N.length = n) (hp : ps.length = np) (hnp : np ≤ n)
    (hb : ∀ (cdv : Value) (A : Around) (outer : List PySem.Env) (s : Shared) (H : Hp) (E : XK), Room k (A.deeper (envOfC qual (defScope st) s.heap.objs.size f cdv)) →
      PSs (cxOf cx P w K mg base N qual (defScope st) f cdv A outer s H E) (defBody st) (rs ⟨K, mg, none, none⟩ (fun cls d _ H => E cls d H) den)) :
    FnOk P w K mg base cx (k + 1) f fd ps (spD ⟨K, mg, none, none⟩ (runDef np n den)) := by
  refine okAny Fu S (fun vs H Q E h => ?_) (fun cdv A outer s H vs Q E hr h => ⟨_, hb cdv A outer s H E hr, ?_⟩)
  · obtain ⟨F, ds, _, r, h⟩ := h
    unfold runDef at h
    by_cases hl : ds.length = np
    · rw [r.length, hl, hp]
    · rw [if_neg hl] at h
      exact h.elim
  · obtain ⟨F, ds, hF, r, h⟩ := h
    unfold runDef at h
    by_cases hl : ds.length = np
    · rw [if_pos hl] at h
      refine ⟨H, F, startEnv n ds, env_start rfl hF r hN (by omega), ?_⟩
      cases hd : den (startEnv n ds) with
      | next Γ' => rw [hd] at h; exact fun σ' F' H' e' env' => h .non F' H' env'.pf env'.fh e' rfl
      | ret d => rw [hd] at h; exact fun v F' H' e' s1 s2 r' => h v F' H' s1 s2 e' r'
      | brk Γ' => rw [hd] at h; exact h.elim
      | cont Γ' => rw [hd] at h; exact h.elim
      | stuck => rw [hd] at h; exact h.elim
      | exc c fs Γ' => rw [hd] at h; exact fun σ' F' H' cls d e' env' ex => h F' H' cls d env'.pf env'.fh e' ex
    · rw [if_neg hl] at h
      exact h.elim
theorem rep_ints {G : Gx} {F : Hp} : ∀ ns : List Int, Reps G F (ns.map D.int) (ns.map V.int)
  | [] => rfl
  | z :: r => ⟨_, _, rfl, rfl, rep_ints r⟩
/-- the law called with a script -/
theorem law_sp {G : Gx} {fn : Fn} {H : Hp} {a : Addr} {ns : List Int} (hS : SqL G.K H a (ns.map V.int)) (h : fn [.scr (ns.map D.int)] = .ok (.bl true)) : spD G fn [.ref a] H (fun v _ => v = .bl true) fun _ _ _ => False := by
  refine ⟨H, [.scr (ns.map D.int)], Same.refl _, Reps.one ⟨a, _, rfl, hS, rep_ints ns⟩, ?_⟩
  rw [h]
  exact fun v F' H' _ _ _ r => r
theorem cx_no {P : Program} {w : World} {H : Hp} {s s' : Shared} {e : Value} (h : L2.CX P w [] H s (fun _ _ _ => False) e s') : False := by
  obtain ⟨a, B, H1, cls, d, h⟩ := h
  exact h.2.2.2.2.2.2.2
end
end DP
namespace DP
open PySem PySem.Spec
    PyProof.Rows L2
/-- a def that other defs call -/
structure Cal (P : Program) (w : World) (K : PySem.W.Frag) (mg : Str → Option Value) (base : Heap) (cx : CXT) (k : Nat) (x : Str) (ps : List Str) (fn : Fn) (f : Addr) (fd : FuncData) : Prop where
  ok : FnOk P w K mg base cx k f fd ps (spD ⟨K, mg, none, none⟩ fn)
  m : mg x = some (.ref f)
  kp : PySem.W.keepIn
      K (.ref f) = true
  b : Binds K fd ps []
/-- what knows that no exception is handled where it is raised serves where that is not asked, too -/
theorem Cal.down {P : Program} {w : World} {K : PySem.W.Frag} {mg : Str → Option Value} {base : Heap} {k : Nat} {x : Str} {ps : List Str} {fn : Fn} {f : Addr} {fd : FuncData} (C : Cal P w K mg base (L2N.CX P w) k x ps fn f fd) : Cal P w K mg base (L2.CX P w) k x ps fn f fd := ⟨DP.down C.ok, C.m, C.kp, C.b⟩
section
variable {X : Cx} {p1 p2 : Pos} {j : _}
theorem pe_m1 : PE X (.UnaryOp .USub (.Constant (.int 1) j p1) p2) (tC (.int (-1))) :=
  PE_imp (pe_un un_neg pe_int) fun σ H Q hq => ⟨1, rfl, hq⟩
end
section
variable {K : PySem.W.Frag} {mg : Str → Option Value}
theorem exm_sub {S : Addr} {t : Value} {b : Bool} (h1 : PySem.W.subIn K (.ref S) (.type "BaseException") = some true) (h2 : PySem.W.isClsIn K S = true) (h3 : PySem.W.typeIn K (.ref S) = some (.type "type")) (h4 : PySem.W.subIn K t (.ref S) = some b) : PySem.W.exmOne K t (.ref S) = some b := by
  have h2' : (PySem.W.clsIn K S).isSome = true :=
      h2
  unfold PySem.W.exmOne
  rw [h1]
  show (if ((PySem.W.clsIn K S).isSome && PySem.W.typeIn K (.ref S) == some (.type "type")) = true then PySem.W.subIn K t (.ref S) else none) = some b
  rw [h3, h2', h4]
  rfl
theorem kit_sub {S : Addr} {t : Value} {b : Bool} (h2 : PySem.W.isClsIn K S = true) (h3 : PySem.W.typeIn K (.ref S) = some (.type "type")) (h4 : PySem.W.subIn K t (.ref S) = some b) (h5 : (t == Value.ref S) = false) : PySem.W.kitOne K t (.ref S) = some b := by
  have h2' : (PySem.W.clsIn K S).isSome = true :=
      h2
  unfold PySem.W.kitOne PySem.W.kitCls
  rw [if_neg (by rw [h5]; decide)]
  show (if ((PySem.W.clsIn K S).isSome && PySem.W.typeIn K (.ref S) == some (.type "type")) = true then PySem.W.subIn K t (.ref S) else none) = some b
  rw [h3, h2', h4]
  rfl
/-- a table of one class -/
def only (x : Str) (b : Bool) : Str → Option Bool := fun c => if c = x then some b else none
theorem only_is {x c : Str} {b d : Bool} (h : only x b c = some d) : c = x ∧ d = b := by
  unfold only at h
  split at h
  · exact ⟨by assumption,
      (Option.some.inj h).symm⟩
  · cases h
theorem sub_only {x : Str} {b : Bool} {t c : Value} (hx : mg x = some t) (h : PySem.W.exmOne K t c = some b) : SubOk K mg c (only x b) := fun cn d cls h1 h2 => by
  obtain ⟨rfl, rfl⟩ := only_is h1
  rw [hx] at h2
  cases h2
  exact h
theorem kits_only {x : Str} {b : Bool} {Dc : Addr} {c : Value} (hx : mg x = some (.ref Dc)) (e : ExcC K Dc) (h : PySem.W.kitOne K (.ref Dc) c = some b) : KitsOk K mg c (only x b) := fun cn d h1 cls h2 => by
  obtain ⟨rfl, rfl⟩ := only_is h1
  rw [hx] at h2
  cases h2
  exact ⟨Dc, rfl, e, h⟩
end
end DP
namespace DP
open PySem PySem.Spec
    PyProof.Rows L2
def spL (K : PySem.W.Frag) (fn : Fn) : Sp := fun vs H Q _ => ∃ (a : Addr) (ns : List Int), vs = [V.ref a] ∧ SqL K H a (ns.map V.int) ∧ fn [.scr (ns.map D.int)] = .ok (.bl true) ∧ ∀ H', Q (.bl true) H'
theorem spL_imp {K : PySem.W.Frag} {mg : Str → Option Value} {fn : Fn} (vs : List V) (H : Hp) (Q : VK) (E : XK) (h : spL K fn vs H Q E) : spD ⟨K, mg, none, none⟩ fn vs H Q E := by
  obtain ⟨a, ns, rfl, hS, hf, hq⟩ := h
  refine ⟨H, [.scr (ns.map D.int)], Same.refl _, Reps.one ⟨a, _, rfl, hS, rep_ints ns⟩, ?_⟩
  rw [hf]
  exact fun v F' H' _ _ _ r => by rw [show v = .bl true from r]; exact hq H'
theorem walkD {l : PySem.W.OpenLaw} {n k : Nat} {q : Program} {loose : List Str} {XP : (Str → Option Value) → Heap → Prop} {YP : World → Heap → Prop} {d : DefRec} {K : Params → PySem.W.Frag} {fn : Fn}
    (hlaw : ∀ ns : List Int, ns.length ≤ n → (∀ z ∈ ns, Builtin.Int.intBits z ≤ 1048576) → fn [.scr (ns.map D.int)] = .ok (.bl true))
    (hn : l.most = some n) (hn2 : n ≤ sizeLine) (hdf : d.params.defaults = []) (hr : Room k callerA) (hY : ∀ (w : World) (h : Heap),
        YP w h → (K w.params).In h)
    (Fo : ∀ (w : World) (mg : Str → Option Value) (fa : Addr) (h : Heap), (K w.params).In h → h.Ns mainGlobals mg → mg d.name = some (.ref fa) →
      ∃ fd : FuncData, (∀ (s : Shared) (u : Value), BindsTo s fd ⟨[u], []⟩ [("script", u)]) ∧
        ∀ base : Heap, (K w.params).In base → base.Ns mainGlobals mg → FnOk l.prog w (K w.params) mg base (L2.CX l.prog w) k fa fd ["script"] (spD ⟨K w.params, mg, none, none⟩ fn)) :
    PySem.W.WalkO q loose XP YP l.row.toRowW d [] (fun f vs =>
        PySem.call f vs) :=
  L2.walk_ofB (n := n) (k := k) (x := "script") (CX := fun w => L2.CX l.prog w) (sp := fun w => spL (K w.params) fn) hn hn2 hdf hr hY
    (fun w mg fa h h1 h2 h3 => by
      obtain ⟨fd, h4, h5⟩ := Fo w mg fa h h1 h2 h3
      exact ⟨fd, h4, fun base h6 h7 => (h5 base h6 h7).imp fun vs H Q E h => spL_imp vs H Q E h⟩)
    (fun w H a ns h1 h2 h3 h4 => ⟨a, ns, rfl, h4, hlaw ns h1 h2, fun _ => rfl⟩) fun w H s e s' h => cx_no h
end DP

/-! DpIns: instances of own classes: attributes, making, methods. -/
namespace DP
open PySem PySem.Spec
    PyProof.Rows L2

/-! ### denotations -/
/-- o.f, o of one of the classes cs -/
def fldF (cs : List Str) (f : Str) : D → Option Opd
  | .ins c fs => if cs.contains c = true then (fs.lookup f).map Opd.val else none
  | _ => none
def putD (f : Str) (d : D) : List (Str × D) → List (Str × D)
  | [] => [(f, d)]
  | (g, x) :: r => if g = f then (g, d) :: r else (g, x) :: putD f d r
/-- o.f = e, o the own instance of slot i -/
def sFldD (cs : List Str) (f : Str) (i : Nat) (e : E) : DP.S := fun Γ => (e Γ).toSB fun o Γ1 => match o.get Γ1 with
  | some d => match (freeze Γ1 o)[i]? with
    | some (.ow (.ins c fs)) => if (cs.contains c && decide (fs.length < 1000)) = true then .next ((freeze Γ1 o).set i (.ow (.ins c (putD f d fs)))) else .stuck
    | _ => .stuck
  | none => .stuck
def giveAll (Γ : Env) : List Opd → Env
  | [] => Γ
  | o :: r => giveAll (freeze Γ o) r
/-- a call to which what slots own is given: they share it from then on -/
def giveR (k : D → Opd) (fn : Fn) (os : List Opd) (Γ : Env) : R Opd := match gets Γ os with
  | some ds => match fn ds with
    | .ok d => .ok (k d) (giveAll Γ os)
    | .exc c fs => .exc c fs (giveAll Γ os)
    | .stuck => .stuck
  | none => .stuck
def eNew (fn : Fn) (t : As) : DP.E := fun Γ => (t Γ).bind fun os Γ1 => giveR .fresh fn os Γ1
def eGive (fn : Fn) (t : As) : DP.E := fun Γ => (t Γ).bind fun os Γ1 => giveR .val fn os Γ1
/-- __init__ of the class c: np parameters with self, n names -/
def runInit (c : Str) (np n : Nat) (b : DP.S) : Fn := fun ds => if ds.length + 1 = np then (match b (.ow (.ins c []) :: startEnv (n - 1) ds) with
  | .next Γ' => (match (Γ'[0]? : Option Slot) with
    | some (Slot.ow d) => .ok d
    | _ => .stuck)
  | .exc c fs _ => .exc c fs
  | _ => .stuck) else .stuck

section
variable {G : Gx} {W : WX} {X : Cx} {o e value : Expr} {es : List Expr} {pos p apos cpos p2 pos' : Pos} {da db dc : DP.E}

/-! ### attributes -/
def FldOk (X : Cx) (cs : List Str) (f : Str) : Prop := ∀ c ∈ cs, ∀ C, X.mg c = some (.ref C) → Cls X.K C ∧ NoAttr X.K C f
theorem repF_lookup {F : Hp} {f : Str} {d : D} : ∀ {fs : List (Str × D)} {xs : List (Str × V)}, RepF G F fs xs → fs.lookup f = some d → ∃ v, xs.lookup f = some v ∧ Rep G F d v
  | [], _, _, h => by cases h
  | (g, x) :: r, _, h, e => by
    obtain ⟨v, s, rfl, h1, h2⟩ := h
    by_cases hg : f = g
    · subst hg
      have : ((f, x) :: r).lookup f = some x := by simp [List.lookup]
      rw [this] at e
      cases e
      exact ⟨v, by simp [List.lookup], h1⟩
    · have hb : (f == g) = false := by simpa using hg
      have e' : r.lookup f = some d := by simpa [List.lookup, hb] using e
      obtain ⟨w, h3, h4⟩ := repF_lookup h2 e'
      exact ⟨w, by simpa [List.lookup, hb] using h3, h4⟩
theorem repF_put {F : Hp} {f : Str} {d : D} {v : V} (hv : Rep G F d v) : ∀ {fs : List (Str × D)} {xs : List (Str × V)}, RepF G F fs xs → RepF G F (putD f d fs) (putF f v xs)
  | [], _, h => by
    rw [show _ = [] from h]
    exact ⟨v, [], rfl, hv, rfl⟩
  | (g, x) :: r, _, h => by
    obtain ⟨u, s, rfl, h1, h2⟩ := h
    unfold putD putF
    by_cases hg : g = f
    · rw [if_pos hg, if_pos hg]
      exact ⟨v, s, rfl, hv, h2⟩
    · rw [if_neg hg, if_neg hg]
      exact ⟨u, _, rfl, h1, repF_put hv h2⟩
theorem repF_len {F : Hp} : ∀ {fs : List (Str × D)} {xs : List (Str × V)}, RepF G F fs xs → xs.length = fs.length
  | [], _, h => by rw [show _ = [] from h]; rfl
  | (g, x) :: r, _, h => by
    obtain ⟨u, s, rfl, _, h2⟩ := h
    show s.length + 1 = r.length + 1
    rw [repF_len h2]
theorem de_fld {cs : List Str} {f : Str} (ok : Ok G X) (hf : FldOk X cs f) (ha : PE X o (rd G W da)) (hb : attributeBase o f X.env (eval o X.env) = eval o X.env := by rfl) : PE X (.Attribute o f pos) (rd G W (eUn (fldF cs f) da)) := by
  refine PE_imp (pe_fld ha hb) (un_tr (r := fun x H1 Q => ∃ a C dx fs v, x = .ref a ∧ H1 a = some (.ins C dx fs) ∧ Cls X.K C ∧ NoAttr X.K C f ∧ fs.lookup f = some v ∧ Q v H1) fun {P F H σ Γ dx x z Q} env hw hz q => ?_)
  cases dx with
  | ins c fs =>
    have hz : (if cs.contains c = true then (fs.lookup f).map Opd.val else none) = some z := hz
    split at hz
    · rename_i hc
      cases hl : fs.lookup f with
      | none => rw [hl] at hz; cases hz
      | some d =>
        rw [hl] at hz
        cases hz
        obtain ⟨a, C, dx, xs, rfl, h1, h2, h3⟩ := hw.ins env.fh
        obtain ⟨v, h4, h5⟩ := repF_lookup h3 hl
        obtain ⟨k1, k2⟩ := hf c (by simpa using hc) C (by rw [← ok.mg]; exact h2)
        exact ⟨a, C, dx, xs, v, rfl, h1, k1, k2, h4, q.val env h5⟩
    · cases hz
  | _ => cases hz
theorem ds_fld {x : Str} {px : Pos} {cs : List Str} {f : Str} (i : Nat) (ok : Ok G X) (hf : FldOk X cs f) (ho : PE X (.Name x px) (tVar i)) (hv : PE X value (rd G W da)) (hs : swapsWith value (some (.Attribute (.Name x px) f pos')) pos.line X.env = pure false := by rfl) :
    PS X (.Assign [.Attribute (.Name x px) f pos'] value pos) (rs G W (sFldD cs f i da)) := by
  refine PS_imp (ps_fld ho hv hs) fun D σ H hq => ?_
  obtain ⟨P, F, Γ, env, h⟩ := hq
  refine rd_s env h fun o1 Γ1 v1 F1 H1 e1 env1 ho1 h1 => ?_
  cases hx : o1.get Γ1 with
  | none => simp only [hx] at h1; exact h1.elim
  | some d =>
    simp only [hx] at h1
    obtain ⟨F2, e2, env2, r2⟩ := freeze_ok env1 ho1 hx
    cases hsl : (freeze Γ1 o1)[i]? with
    | none => simp only [hsl] at h1; exact h1.elim
    | some sl =>
      simp only [hsl] at h1
      cases sl with
      | ow dd =>
        cases dd with
        | ins c fs =>
          dsimp only at h1
          split at h1
          · rename_i hc
            rw [Bool.and_eq_true,
                decide_eq_true_eq] at hc
            obtain ⟨a, k1, k2, k3, C, dx, xs, k4, k5, k6⟩ := env2.slot i _ hsl
            obtain ⟨c1, c2⟩ := hf c (by simpa using hc.1) C (by rw [← ok.mg]; exact k5)
            refine ⟨.ref a, k1, a, C, dx, xs, rfl, k4, c1, c2, by rw [repF_len k6]; exact hc.2, ?_⟩
            exact h1 σ F2 _ e2 (env2.mut hsl k1 ⟨C, dx, putF f v1 xs, upd_same, k5, repF_put r2 k6⟩)
          · exact h1.elim
        | _ => exact h1.elim
      | no => exact h1.elim
      | sh _ => exact h1.elim
      | ex _ _ => exact h1.elim

/-! ### giving -/
theorem freeze_get {Γ : Env} {o : Opd} (j : Nat) : slotD (freeze Γ o)[j]? = slotD Γ[j]? := by
  cases o with
  | val d => rfl
  | fresh d => rfl
  | own i =>
    show slotD (match Γ[i]? with | some (.ow d) => Γ.set i (.sh d) | _ => Γ)[j]? = _
    cases hs : Γ[i]? with
    | none => rfl
    | some s =>
      cases s with
      | ow d =>
        dsimp only
        by_cases hj : i = j
        · subst hj
          rw [List.getElem?_set_self (len_get hs), hs]
          rfl
        · rw [List.getElem?_set_ne hj]
      | _ => rfl
theorem freeze_gets {Γ : Env} {o : Opd} : ∀ os : List Opd, gets (freeze Γ o) os = gets Γ os
  | [] => rfl
  | p :: r => by
    have h1 : p.get (freeze Γ o) = p.get Γ := by
      cases p with
      | own j => exact freeze_get j
      | _ => rfl
    show (match p.get (freeze Γ o), gets (freeze Γ o) r with | some d, some ds => some (d :: ds) | _, _ => none) = _
    rw [h1, freeze_gets r]
    rfl
theorem WOpds.sub {F F' : Hp} {σ : L2.St} (e : Same F F') : ∀ {os : List Opd} {vs : List V}, WOpds G F σ os vs → WOpds G F' σ os vs
  | [], _, h => h
  | o :: os, _, h => by
    obtain ⟨v, r, rfl, h1, h2⟩ := h
    refine ⟨v, r, rfl, ?_, WOpds.sub e h2⟩
    rcases h1 with ⟨d, k1, k2⟩ | k
    · exact .inl ⟨d, k1, k2.mono e⟩
    · exact .inr k
theorem give_ok {P H : Hp} {σ : L2.St} : ∀ {os : List Opd} {vs : List V} {ds : List D} {Γ : Env} {F : Hp}, EnvOk G P F H σ Γ → WOpds G F σ os vs → gets Γ os = some ds → ∃ F1, Ext P F F1 ∧ EnvOk G P F1 H σ (giveAll Γ os) ∧ Reps G F1 ds vs
  | [], vs, ds, Γ, F, env, ho, hg => by
    rw [show vs = [] from ho]
    cases hg
    exact ⟨F, Ext.refl _ _, env, rfl⟩
  | o :: os, vs, ds, Γ, F, env, ho, hg => by
    obtain ⟨v, r, rfl, h1, h2⟩ := ho
    have hg : (match o.get Γ, gets Γ os with | some d, some ds => some (d :: ds) | _, _ => none) = some ds := hg
    cases hd : o.get Γ with
    | none => rw [hd] at hg; cases hg
    | some d =>
      cases hr : gets Γ os with
      | none => rw [hd, hr] at hg; cases hg
      | some rs =>
        rw [hd, hr] at hg
        cases hg
        have step : ∃ F1, Ext P F F1 ∧ EnvOk G P F1 H σ (freeze Γ o) ∧ Rep G F1 d v := by
          rcases h1 with ⟨d', k1, k2⟩ | ⟨i, rfl, k2⟩
          · have hfz : freeze Γ o = Γ := by
              cases o with
              | own i => cases k1
              | _ => rfl
            have hdd : d' = d := by
              cases o with
              | own i => cases k1
              | val x => cases k1; cases hd; rfl
              | fresh x => cases k1; cases hd; rfl
            subst hdd
            rw [hfz]
            exact ⟨F, Ext.refl _ _, env, k2⟩
          · exact freeze_ok env ⟨⟨d, hd⟩, k2⟩ hd
        obtain ⟨F1, e1, env1, r1⟩ := step
        obtain ⟨F2, e2, env2, r2⟩ := give_ok (os := os) (ds := rs) env1 (h2.sub e1.sub) (by rw [freeze_gets]; exact hr)
        exact ⟨F2, e1.trans e2, env2, v, r, rfl, r1.mono e2.sub, r2⟩

/-! ### a def to which all is given -/
theorem give_tr {fn : Fn} {P F H : Hp} {σ : L2.St} {Γ : Env} {os : List Opd} {vs : List V} {Q : VK} (env : EnvOk G P F H σ Γ) (ho : WOpds G F σ os vs) (h : EPost G W P F σ Q (giveR .val fn os Γ)) : spD G fn vs H Q (fun cls d H' => W cls d σ H') := by
  unfold giveR at h
  cases hg : gets Γ os with
  | none => rw [hg] at h; exact h.elim
  | some ds =>
    rw [hg] at h
    dsimp only at h
    obtain ⟨F1, e1, env1, r1⟩ := give_ok env ho hg
    refine ⟨F1, ds, env1.fh, r1, ?_⟩
    cases hf : fn ds with
    | ok d =>
      rw [hf] at h
      intro v F' H' sH sF x r
      obtain ⟨env2, x2⟩ := env1.after sH sF x
      exact h v F' H' (e1.trans x2) env2 r
    | exc c fs =>
      rw [hf] at h
      intro F' H' cls d sH sF x ex
      obtain ⟨env2, x2⟩ := env1.after sH sF x
      exact h F' H' cls d (e1.trans x2) env2 ex
    | stuck => rw [hf] at h; exact h.elim
theorem de_give {x : Str} {fn : Fn} {t : As} {k : Nat} {f : Addr} {fd : FuncData} {ps : List Str} {cx : CXT} (F : FnOk X.prog X.w X.K X.mg X.base cx k f fd ps (spD G fn)) (hr : Room k X.A) (hg : Gl X x) (hm : X.mg x = some (.ref f)) (hk : PySem.W.keepIn X.K (.ref f) = true) (hb : Binds X.K fd ps [])
    (tk : Lets cx X W) (ha : PA X (e :: es) (rdA G W t)) (hdb : (x == ("__debug__" : Str)) = false := by decide) (he : starEach (e :: es) X.env = (false, eval e X.env) :: starEach es X.env := by rfl) (hpl : (backTo pos (starEach es X.env)).any (·.1) = false := by rfl) :
    PE X (.Call (.Name x p) (e :: es) [] pos) (rd G W (eGive fn t)) := by
  refine PE_imp (pe_callSD F hr hg hm hk hb .nil tk ha hdb he hpl) fun σ H Q hq => ?_
  obtain ⟨P, F0, Γ, env, h⟩ := hq
  refine rdA_bind env h fun os Γ1 vs F1 H1 e1 env1 ho h1 => ?_
  rw [List.append_nil]
  exact give_tr env1 ho h1
end
end DP

/-! DpNew: instances made by an __init__ of the text; calls of defs whatever is held. -/
namespace DP
open PySem PySem.Spec
    PyProof.Rows L2

def hole (H : Hp) (x : Addr) : Hp := fun ad => if ad = x then none else H ad
theorem hole_ne {H : Hp} {x ad : Addr} (h : ad ≠ x) : hole H x ad = H ad := if_neg h
theorem hole_at {H : Hp} {x : Addr} : hole H x x = none := if_pos rfl
/-- what an __init__ promises: called with the new instance at x and data -/
def spI (G : Gx) (c : Str) (fn : Fn) : Sp := fun vs H Q E => ∃ (F : Hp) (ds : List D) (x C dx : Addr) (us : List V), vs = .ref x :: us ∧ F x = none ∧ Same F H ∧ H x = some (.ins C dx []) ∧ G.mg c = some (.ref C) ∧ Reps G F ds us ∧
  match fn ds with
  | .ok d => ∀ F' H', Same (hole H x) H' → Same F' H' → Ext (hole H x) F F' → F' x = none → OwnAt G F' H' d x → Q .non H'
  | .exc c fs => ∀ F' H' cls d, Same (hole H x) H' → Same F' H' → Ext (hole H x) F F' → ExcOk G F' c fs cls d H' → E cls d H'
  | .stuck => False
theorem spI_cg {G G' : Gx} {c : Str} {fn : Fn} (hK : G'.K = G.K) (hm : G'.mg = G.mg) (vs : List V) (H : Hp) (Q : VK) (E : XK) (h : spI G c fn vs H Q E) : spI G' c fn vs H Q E := by
  obtain ⟨F, ds, x, C, dx, us, h1, h2, h3, h4, h5, h6, h7⟩ := h
  refine ⟨F, ds, x, C, dx, us, h1, h2, h3, h4, by rw [hm]; exact h5, h6.cg hK.symm hm.symm, ?_⟩
  cases hf : fn ds with
  | ok d => rw [hf] at h7; exact fun F' H' k1 k2 k3 k4 k5 => h7 F' H' k1 k2 k3 k4 (k5.cg hK hm)
  | exc c fs => rw [hf] at h7; exact fun F' H' cls d k1 k2 k3 k4 => h7 F' H' cls d k1 k2 k3 (ExcOk.cg hK hm k4)
  | stuck => rw [hf] at h7; exact h7
theorem spD_cg {G G' : Gx} {fn : Fn} (hK : G'.K = G.K) (hm : G'.mg = G.mg) (vs : List V) (H : Hp) (Q : VK) (E : XK) (h : spD G fn vs H Q E) : spD G' fn vs H Q E := by
  obtain ⟨F, ds, h1, h2, h3⟩ := h
  refine ⟨F, ds, h1, h2.cg hK.symm hm.symm, ?_⟩
  cases hf : fn ds with
  | ok d => rw [hf] at h3; exact fun v F' H' k1 k2 k3 k4 => h3 v F' H' k1 k2 k3 (k4.cg hK hm)
  | exc c fs => rw [hf] at h3; exact fun F' H' cls d k1 k2 k3 k4 => h3 F' H' cls d k1 k2 k3 (ExcOk.cg hK hm k4)
  | stuck => rw [hf] at h3; exact h3

section
variable {G : Gx} {W : WX} {X : Cx} {o e value : Expr} {es : List Expr} {pos p apos cpos p2 pos' : Pos} {da db dc : DP.E} {t : As}
/-- a def of the text, lent or given -/
theorem de_callC {x : Str} {fn : Fn} {k : Nat} {f : Addr} {fd : FuncData} {ps : List Str} {cx : CXT} (C : Cal X.prog X.w X.K X.mg X.base cx k x ps fn f fd) (ok : Ok G X) (hr : Room k X.A) (hg : Gl X x)
    (tk : Lets cx X W) (ha : PA X (e :: es) (rdA G W t)) (hdb : (x == ("__debug__" : Str)) = false := by decide) (he : starEach (e :: es) X.env = (false, eval e X.env) :: starEach es X.env := by rfl) (hpl : (backTo pos (starEach es X.env)).any (·.1) = false := by rfl) :
    PE X (.Call (.Name x p) (e :: es) [] pos) (rd G W (eCall fn t)) := de_call (C.ok.imp fun vs H Q E h => spD_cg ok.K.symm ok.mg.symm vs H Q E h) hr hg C.m C.kp C.b tk ha hdb he hpl
theorem de_giveC {x : Str} {fn : Fn} {k : Nat} {f : Addr} {fd : FuncData} {ps : List Str} {cx : CXT} (C : Cal X.prog X.w X.K X.mg X.base cx k x ps fn f fd) (ok : Ok G X) (hr : Room k X.A) (hg : Gl X x)
    (tk : Lets cx X W) (ha : PA X (e :: es) (rdA G W t)) (hdb : (x == ("__debug__" : Str)) = false := by decide) (he : starEach (e :: es) X.env = (false, eval e X.env) :: starEach es X.env := by rfl) (hpl : (backTo pos (starEach es X.env)).any (·.1) = false := by rfl) :
    PE X (.Call (.Name x p) (e :: es) [] pos) (rd G W (eGive fn t)) := de_give (C.ok.imp fun vs H Q E h => spD_cg ok.K.symm ok.mg.symm vs H Q E h) hr hg C.m C.kp C.b tk ha hdb he hpl

theorem run_makeS {cx : CXT} {k : Nat} {f C : Addr} {fd : FuncData} {ps : List Str} {sp : Sp} {E : XK} {pins : List (Addr × Obj)} {σ : L2.St} {H : Hp} {s : Shared} {Q : VK} {us : List Value} {vs : List V} (M : Mk X.K C f) (Fo : FnOk X.prog X.w X.K X.mg X.base cx k f fd ps sp) (hr : Room (k + 1) X.A) (hb : Binds X.K fd ps [])
    (hx : PassesAt cx X σ E) (Iv : Inv X pins σ H s) (r : Vals vs us)
    (h : ∀ x dx, H x = none → H dx = none → dx ≠ x → sp (.ref x :: vs) (upd (upd H dx (.own x)) x (.ins C dx [])) (fun v H2 => v = .non ∧ Q (.ref x) H2) E) :
    wpAny (model X.prog X.w) X.A (call (.ref C) us) (EP X pins σ Q) X.xe s :=
        by
  have hq := h (s.heap.objs.size + 1) s.heap.objs.size (Iv.hok.fresh (Nat.le_succ _)) (Iv.hok.fresh (Nat.le_refl _)) (Nat.ne_of_lt (Nat.lt_succ_self _))
  have I2 := Inv.made (C := C) Iv
  have r2 : Vals (V.ref (s.heap.objs.size + 1) :: vs) (Value.ref (s.heap.objs.size + 1) :: us) :=
      .cons rfl r
  have hl : (Value.ref (s.heap.objs.size + 1) :: us).length = ps.length := by
    have z := r2.length
    rw [Fo.len _ _ _ _ hq] at z
    exact z.symm
  have hbb := hb _ (Value.ref (s.heap.objs.size + 1) :: us) I2.kIn (by rw [List.append_nil]; exact hl)
  rw [List.append_nil] at hbb
  refine wpAny_call (make_map (f := f) Iv.kIn M.makes M.init (beq_iff_eq.mp M.fn) (codeAny_mono (Fo.run _ X.stack _ _ ⟨Value.ref (s.heap.objs.size + 1) :: us, []⟩ (Value.ref (s.heap.objs.size + 1) :: us) _ _ E (hr.make C us [])
    (I2.env0.make C us []) hbb r2 hq) fun rr s' hq' => ?_))
  cases rr with
  | error er => exact hx pins _ _ er s' I2 hq'
  | ok fl =>
    cases fl with
    | ret u =>
      obtain ⟨v, H', I3, rv,
          ev, q3⟩ := I2.after hq'
      subst ev
      exact ⟨rv, ⟨V.ref (s.heap.objs.size + 1),
          H', I3, rfl, q3⟩⟩
    | next => exact hq'.elim
    | brk => exact hq'.elim
    | cont => exact hq'.elim
/-- C(e, ..) -/
theorem de_new {cx : CXT} {c : Str} {fn : Fn} {k : Nat} {f C : Addr} {fd : FuncData} {ps : List Str} (M : Mk X.K C f) (ok : Ok G X) (Fo : FnOk X.prog X.w X.K X.mg X.base cx k f fd ps (spI ⟨X.K, X.mg, none, none⟩ c fn)) (hr : Room (k + 1) X.A) (hg : Gl X c) (hm : X.mg c = some (.ref C)) (hb : Binds X.K fd ps [])
    (tk : Lets cx X W) (ha : PA X (e :: es) (rdA G W t)) (hdb : (c == ("__debug__" : Str)) = false := by decide) (he : starEach (e :: es) X.env = (false, eval e X.env) :: starEach es X.env := by rfl) (hpl : (backTo pos (starEach es X.env)).any (·.1) = false := by rfl) :
    PE X (.Call (.Name c p) (e :: es) [] pos) (rd G W (eNew fn t)) := by
  refine ⟨fun pn sh τ Hh Qk Iv hq => ?_⟩
  refine wpAny_Call_Name_kw (ld_glob Iv hg hm ?_ hdb)
  obtain ⟨P, F0, Γ, env, h⟩ := hq
  have hA : rdA G W t τ Hh (fun vs H1 => ∀ x dx, H1 x = none → H1 dx = none → dx ≠ x → spI ⟨X.K, X.mg, none, none⟩ c fn (.ref x :: vs) (upd (upd H1 dx (.own x)) x (.ins C dx [])) (fun v H2 => v = .non ∧ Qk (.ref x) H2) (fun cls d H' => W cls d τ H')) := by
    refine rdA_bind env h fun os Γ1 vs F1 H1 e1 env1 ho h1 => ?_
    intro x dx hx hdx hne
    unfold giveR at h1
    cases hgs : gets Γ1 os with
    | none => rw [hgs] at h1; exact h1.elim
    | some ds =>
      rw [hgs] at h1
      dsimp only at h1
      obtain ⟨F2, e2, env2, r2⟩ := give_ok env1 ho hgs
      have env3 := env2.new (u := HO.own x) hdx
      have nx : (upd H1 dx (.own x)) x = none := by rw [upd_ne (Ne.symm hne)]; exact hx
      have hol : ∀ ad, hole (upd (upd H1 dx (.own x)) x (.ins C dx [])) x ad = (upd H1 dx (.own x)) ad := fun ad => by
        by_cases ha : ad = x
        · subst ha; rw [hole_at, nx]
        · rw [hole_ne ha, upd_ne ha]
      have hS : ∀ {H' : Hp}, Same (hole (upd (upd H1 dx (.own x)) x (.ins C dx [])) x) H' → Same (upd H1 dx (.own x)) H' := fun {H'} s ad o' e' => s ad o' ((hol ad).trans e')
      have hE : ∀ {F' : Hp}, Ext (hole (upd (upd H1 dx (.own x)) x (.ins C dx [])) x) F2 F' → Ext (upd H1 dx (.own x)) F2 F' := fun {F'} s => ⟨s.sub, fun ad o' e' => (s.new ad o' e').imp id fun z => (hol ad).symm.trans z⟩
      refine spI_cg (G := G) ok.K.symm ok.mg.symm _ _ _ _ ⟨F2, ds, x, C, dx, vs, rfl, env2.fh.free hx, (env3.new (u := HO.ins C dx []) nx).fh, upd_same, by rw [ok.mg]; exact hm, r2, ?_⟩
      cases hf : fn ds with
      | ok d =>
        rw [hf] at h1
        intro F' H' k1 k2 k3 k4 k5
        obtain ⟨env4, x4⟩ := env3.after (hS k1) k2 (hE k3)
        exact ⟨rfl, h1 (.ref x) F' H' (e2.trans x4) env4 ⟨x, rfl, env2.pf.free hx, k4, k5, env2.notOwn hx⟩⟩
      | exc cc fs =>
        rw [hf] at h1
        intro F' H' cls d k1 k2 k3 k4
        obtain ⟨env4, x4⟩ := env3.after (hS k1) k2 (hE k3)
        exact h1 F' H' cls d (e2.trans x4) env4 k4
      | stuck => rw [hf] at h1; exact h1.elim
  refine PySem.W.callWith_K (h₀ := X.base) Iv.ok.mod.kin M.kp (thn (ha.run pos pn sh τ Hh _ Iv hA) fun us s1 ⟨vs, H1, I1, r, q⟩ => ⟨I1.kIn, ?_⟩) he hpl
  exact run_makeS M Fo hr hb (tk τ) I1 r q
end

section
variable {P : Program} {w : World} {K : PySem.W.Frag}
    {mg : Str → Option Value} {base : Heap}
theorem env_init {G : Gx} {c : Str} {F H : Hp} {ds : List D} {us : List V} {N : List Str} {n : Nat} {x C dx : Addr} (hme : G.me = some x) (hF : Same F H) (hx : F x = none) (hH : H x = some (.ins C dx [])) (hc : G.mg c = some (.ref C)) (r : Reps G F ds us) (hN : N.length = n + 1) (hl : ds.length ≤ n) :
    EnvOk G (hole H x) F H (L2.start N (.ref x :: us)) (.ow (.ins c []) :: startEnv n ds) := by
  have hst : L2.start N (.ref x :: us) = some (.ref x) :: (us.map some ++ List.replicate (n - us.length) none) := by
    unfold L2.start
    rw [hN]
    show some (V.ref x) :: (us.map some ++ List.replicate (n + 1 - (us.length + 1)) none) = _
    rw [Nat.add_sub_add_right]
  rw [hst]
  have sub : ∀ (i : Nat) (s : Slot), (startEnv n ds)[i]? = some s → (s = .no ∨ ∃ d v, s = .sh d ∧ (us.map some ++ List.replicate (n - us.length) none)[i]? = some (some v) ∧ Rep G F d v) := fun i s hs => by
    unfold startEnv at hs
    by_cases hi : i < ds.length
    · rw [List.getElem?_append_left (by rw [List.length_map]; exact hi), List.getElem?_map] at hs
      cases e : ds[i]? with
      | none => rw [e] at hs; cases hs
      | some d =>
        rw [e] at hs
        cases hs
        obtain ⟨v, hv, hr⟩ := r.get e
        refine .inr ⟨d, v, rfl, ?_, hr⟩
        rw [List.getElem?_append_left (by rw [List.length_map, r.length]; exact hi), List.getElem?_map, hv]
        rfl
    · rw [List.getElem?_append_right (by rw [List.length_map]; omega)] at hs
      have := List.mem_of_getElem? hs
      rw [List.mem_replicate] at this
      exact .inl this.2
  exact {
    pf := fun ad o e => by
      by_cases ha : ad = x
      · subst ha; rw [hole_at] at e; cases e
      · rw [hole_ne ha] at e; exact e
    fh := hF
    len := by
      unfold startEnv
      simp only [List.length_cons, List.length_append, List.length_map, List.length_replicate]
      rw [r.length]
    slot := fun i s hs => by
      cases i with
      | zero =>
        cases hs
        exact ⟨x, rfl, hole_at, hx, C, dx, [], hH, hc, rfl⟩
      | succ i =>
        rcases sub i s (by simpa using hs) with rfl | ⟨d, v, rfl, h1, h2⟩
        · trivial
        · exact ⟨v, by simpa using h1, h2⟩
    dis := fun i j ad d e h1 h2 _ _ => by
      cases i with
      | zero =>
        cases j with
        | zero => rfl
        | succ j => rcases sub j _ (by simpa using h2) with k | ⟨_, _, k, _⟩ <;> cases k
      | succ i => rcases sub i _ (by simpa using h1) with k | ⟨_, _, k, _⟩ <;> cases k
    me0 := fun z hz => by
      rw [hme] at hz
      cases hz
      rfl }
theorem okI {cx : CXT} {c qual : Str} {st : Stmt} {f : Addr} {fd : FuncData} {N ps : List Str} {k np n : Nat} {den : DP.S} (Fu : Fun K "__init__" qual st f fd) (S : FnScope N ps (defScope st)) (hN : N.length = n + 1) (hp : ps.length = np) (hnp : np ≤ n + 1)
    (hb : ∀ (x : Addr) (cdv : Value) (A : Around) (outer : List PySem.Env) (s : Shared) (H : Hp) (E : XK), Room k (A.deeper (envOfC qual (defScope st) s.heap.objs.size f cdv)) →
      PSs (cxOf cx P w K mg base N qual (defScope st) f cdv A outer s H E) (defBody st) (rs ⟨K, mg, none, some x⟩ (fun cls d _ H => E cls d H) den)) :
    FnOk P w K mg base cx (k + 1) f fd ps (spI ⟨K, mg, none, none⟩ c (runInit c np (n + 1) den)) := by
  refine okAny Fu S (fun vs H Q E h => ?_) (fun cdv A outer s H vs Q E hr h => ?_)
  · obtain ⟨F, ds, x, C, dx, us, rfl, _, _, _, _, r, h⟩ := h
    unfold runInit at h
    by_cases hl : ds.length + 1 = np
    · show us.length + 1 = ps.length
      rw [r.length, hl, hp]
    · rw [if_neg hl] at h
      exact h.elim
  · obtain ⟨F, ds, x, C, dx, us, rfl, h1, h2, h3, h4, r, h⟩ := h
    refine ⟨_, hb x cdv A outer s H E hr, ?_⟩
    unfold runInit at h
    by_cases hl : ds.length + 1 = np
    · rw [if_pos hl] at h
      refine ⟨hole H x, F, .ow (.ins c []) :: startEnv n ds, env_init (G := ⟨K, mg, none, some x⟩) rfl h2 h1 h3 h4 (Reps.cg (G := ⟨K, mg, none, none⟩) (G' := ⟨K, mg, none, some x⟩) rfl rfl r) hN (by omega), ?_⟩
      have hsub : n + 1 - 1 = n := rfl
      rw [hsub] at h
      cases hd : den (.ow (.ins c []) :: startEnv n ds) with
      | next Γ' =>
        rw [hd] at h
        dsimp only at h
        intro σ' F' H' e' env'
        cases hs : Γ'[0]? with
        | none => rw [hs] at h; exact h.elim
        | some sl =>
          rw [hs] at h
          cases sl with
          | ow d =>
            obtain ⟨ad, k1, k2, k3, k4⟩ := env'.slot 0 _ hs
            have k5 := env'.me0 x rfl
            rw [k1] at k5
            cases k5
            exact h F' H' env'.pf env'.fh e' k3 (OwnAt.cg (G := ⟨K, mg, none, some _⟩) (G' := ⟨K, mg, none, none⟩) rfl rfl k4)
          | no => exact h.elim
          | sh _ => exact h.elim
          | ex _ _ => exact h.elim
      | ret d => rw [hd] at h; exact h.elim
      | brk Γ' => rw [hd] at h; exact h.elim
      | cont Γ' => rw [hd] at h; exact h.elim
      | stuck => rw [hd] at h; exact h.elim
      | exc cc fs Γ' => rw [hd] at h; exact fun σ' F' H' cls d e' env' ex => h F' H' cls d env'.pf env'.fh e' (ExcOk.cg (G := ⟨K, mg, none, some x⟩) (G' := ⟨K, mg, none, none⟩) rfl rfl ex)
    · rw [if_neg hl] at h
      exact h.elim
end
end DP

/-! DpMeth: methods of own classes. -/
namespace DP
open PySem PySem.Spec
    PyProof.Rows L2

def isOf (c m : Str) : D → Bool
  | .ins c' fs => decide (c' = c) && (fs.lookup m).isNone
  | _ => false
/-- o.m(..), o an instance of the class c; what slots own is given -/
def eMth (c m : Str) (fn : Fn) (a : DP.E) (t : As) : DP.E := fun Γ => (a Γ).bind fun x Γ1 => match x.get Γ1 with
  | some d => if isOf c m d = true then (t Γ1).bind fun os Γ2 => giveR .val fn (x :: os) Γ2 else .stuck
  | none => .stuck
section
variable {X : Cx} {k : Nat} {f C : Addr} {fd : FuncData} {ps : List Str} {sp : Sp} {E : L2.St → XK} {m : Str} {pos apos : Pos} {e o : Expr} {es : List Expr} {ta : TE} {t : TA}
theorem pe_methS {cx : CXT} {pl : Sem Bool} (ho : PE X o ta) (c : Cls X.K C) (hm : Meth X.K C m f) (Fo : FnOk X.prog X.w X.K X.mg X.base cx k f fd ps sp) (hr : Room k X.A) (hb : Binds X.K fd ps []) (hx : ∀ σ, PassesAt cx X σ (E σ)) (ha : PA X (e :: es) t)
    (hst : starEach (e :: es) X.env = (false,
        eval e X.env) :: starEach es X.env := by rfl) (hpl : (backTo pos (starEach es X.env)).any (·.1) = false := by rfl)
    (ht : eval (.Call (.Attribute o m
        apos) (e :: es) [] pos) X.env = (do
      let ov ← eval o X.env
      standAt apos.atName
      let (g, first) ← holding [ov] (getMethod ov m pl)
      callWith pos g first (backTo pos (starEach (e :: es) X.env)) (backToKw pos (keywordEach [] X.env))) := by rfl) :
    PE X (.Call (.Attribute o m apos) (e :: es) [] pos) (fun σ H Q => ta σ H fun x H1 => ∃ a dx fs, x = .ref a ∧ H1 a = some (.ins C dx fs) ∧ fs.lookup m = none ∧ t σ H1 fun vs H2 => sp (.ref a :: vs) H2 Q (E σ)) := by
  refine ⟨fun pn sh τ Hh Qk Iv hq => ?_⟩
  refine PySem.W.methodCall_KW (pl := pl) (thn (ho.run pn sh τ Hh _ Iv hq) fun u s1 ⟨x, H1, I1, rx, a, dx, fs, ex, ea, l, q⟩ => ?_) ht
  subst ex
  obtain rfl : u = Value.ref a :=
      rx
  refine getmeth_ok
      I1 ea c hm l ?_
  refine PySem.W.callWith_K (first := [.ref a]) (h₀ := X.base) Iv.ok.mod.kin hm.kp (thn (ha.run pos pn s1 τ H1 _ I1 q) fun us s2 ⟨vs, H2, I2, r, q2⟩ => ⟨I2.kIn, ?_⟩) hst hpl
  exact run_fnS (us := .ref a :: us) (vs := .ref a :: vs) Fo hr hb (hx τ) I2 (.cons rfl r) q2
theorem pe_methS0 {cx : CXT} {pl : Sem Bool} (ho : PE X o ta) (c : Cls X.K C) (hm : Meth X.K C m f) (Fo : FnOk X.prog X.w X.K X.mg X.base cx k f fd ps sp) (hr : Room k X.A) (hb : Binds X.K fd ps []) (hx : ∀ σ, PassesAt cx X σ (E σ))
    (ht : eval (.Call (.Attribute o
        m apos) [] [] pos) X.env = (do
      let ov ← eval o X.env
      standAt apos.atName
      let (g, first) ← holding [ov] (getMethod ov m pl)
      callWith pos g first (backTo pos (starEach [] X.env)) (backToKw pos (keywordEach [] X.env))) := by rfl) :
    PE X (.Call (.Attribute o m apos) [] [] pos) (fun σ H Q => ta σ H fun x H1 => ∃ a dx fs, x = .ref a ∧ H1 a = some (.ins C dx fs) ∧ fs.lookup m = none ∧ sp [.ref a] H1 Q (E σ)) := by
  refine ⟨fun pn sh τ Hh Qk Iv hq => ?_⟩
  refine PySem.W.methodCall_KW (pl := pl) (thn (ho.run pn sh τ Hh _ Iv hq) fun u s1 ⟨x, H1, I1, rx, a, dx, fs, ex, ea, l, q⟩ => ?_) ht
  subst ex
  obtain rfl : u = Value.ref a :=
      rx
  refine getmeth_ok
      I1 ea c hm l ?_
  exact PySem.W.callWith_K0 (first := [.ref a]) I1.kIn hm.kp (run_fnS (us := [.ref a]) (vs := [.ref a]) Fo hr hb (hx τ) I1 (.cons rfl .nil) q)
end

/-- a method that other defs call -/
structure CalM (P : Program) (w : World) (K : PySem.W.Frag) (mg : Str → Option Value) (base : Heap) (cx : CXT) (k : Nat) (c m : Str) (ps : List Str) (fn : Fn) (C f : Addr) (fd : FuncData) : Prop where
  ok : FnOk P w K mg base cx k f fd ps (spD ⟨K, mg, none, none⟩ fn)
  g : mg c = some (.ref C)
  cl : Cls K C
  m : Meth K C m f
  b : Binds K fd ps []
section
variable {G : Gx} {W : WX} {X : Cx} {o e value : Expr} {es : List Expr} {pos p apos cpos p2 pos' : Pos} {da db dc : DP.E} {t : As}
theorem lookup_none {F : Hp} {m : Str} : ∀ {fs : List (Str × D)} {xs : List (Str × V)}, RepF G F fs xs → fs.lookup m = none → xs.lookup m = none
  | [], _, h, _ => by rw [show _ = [] from h]; rfl
  | (g, x) :: r, _, h, hl => by
    obtain ⟨v, s, rfl, _, h2⟩ := h
    cases hb : m == g with
    | true => simp [List.lookup, hb] at hl
    | false =>
      have h3 : r.lookup m = none := by simpa [List.lookup, hb] using hl
      simpa [List.lookup, hb] using lookup_none h2 h3
theorem meth_tr {c m : Str} {fn : Fn} {C : Addr} (hg : G.mg c = some (.ref C)) (σ : L2.St) (H : Hp) (Q : VK) (hq : rd G W (eMth c m fn da t) σ H Q) :
    rd G W da σ H (fun x H1 => ∃ a dx fs, x = .ref a ∧ H1 a = some (.ins C dx fs) ∧ fs.lookup m = none ∧ rdA G W t σ H1 fun vs H2 => spD G fn (.ref a :: vs) H2 Q (fun cls d H' => W cls d σ H')) := by
  obtain ⟨P, F, Γ, env, h⟩ := hq
  refine rd_bind env h fun o1 Γ1 v1 F1 H1 e1 env1 ho1 h1 => ?_
  cases hd : o1.get Γ1 with
  | none => simp only [hd] at h1; exact h1.elim
  | some d =>
    simp only [hd] at h1
    split at h1
    · rename_i hi
      cases d with
      | ins c' fs =>
        have hi : (decide (c' = c) && (fs.lookup m).isNone) = true := hi
        rw [Bool.and_eq_true, decide_eq_true_eq] at hi
        obtain ⟨rfl, hn⟩ := hi
        obtain ⟨a, C', dx, xs, rfl, k1, k2, k3⟩ := (OpdOk.read env1 ho1 hd).ins env1.fh
        rw [hg] at k2
        cases k2
        refine ⟨a, dx, xs, rfl, k1, lookup_none k3 (by simpa using hn), ?_⟩
        obtain ⟨F2, e2, env2, hw⟩ := wopd_of env1 ho1
        refine rdA_bind env2 (EPost.ext e2 h1) fun os Γ2 vs F3 H3 e3 env3 ho3 h3 => ?_
        exact give_tr env3 (os := o1 :: os) ⟨_, _, rfl, hw F3 e3.sub, ho3⟩ h3
      | _ => cases hi
    · exact h1.elim
theorem de_meth {c m : Str} {fn : Fn} {k : Nat} {f C : Addr} {fd : FuncData} {ps : List Str} {pl : Sem Bool} {cx : CXT} (M : CalM X.prog X.w X.K X.mg X.base cx k c m ps fn C f fd) (ok : Ok G X) (hr : Room k X.A) (tk : Lets cx X W) (ho : PE X o (rd G W da)) (ha : PA X (e :: es) (rdA G W t))
    (hst : starEach (e :: es) X.env = (false,
        eval e X.env) :: starEach es X.env := by rfl) (hpl : (backTo pos (starEach es X.env)).any (·.1) = false := by rfl)
    (ht : eval (.Call (.Attribute o m
        apos) (e :: es) [] pos) X.env = (do
      let ov ← eval o X.env
      standAt apos.atName
      let (g, first) ← holding [ov] (getMethod ov m pl)
      callWith pos g first (backTo pos (starEach (e :: es) X.env)) (backToKw pos (keywordEach [] X.env))) := by rfl) :
    PE X (.Call (.Attribute o m apos) (e :: es) [] pos) (rd G W (eMth c m fn da t)) :=
  PE_imp (pe_methS (pl := pl) (E := WE W) ho M.cl M.m (M.ok.imp fun vs H Q E h => spD_cg ok.K.symm ok.mg.symm vs H Q E h) hr M.b tk ha hst hpl ht) (meth_tr (by rw [ok.mg]; exact M.g))
theorem de_meth0 {c m : Str} {fn : Fn} {k : Nat} {f C : Addr} {fd : FuncData} {ps : List Str} {pl : Sem Bool} {cx : CXT} (M : CalM X.prog X.w X.K X.mg X.base cx k c m ps fn C f fd) (ok : Ok G X) (hr : Room k X.A) (tk : Lets cx X W) (ho : PE X o (rd G W da))
    (ht : eval (.Call (.Attribute o
        m apos) [] [] pos) X.env = (do
      let ov ← eval o X.env
      standAt apos.atName
      let (g, first) ← holding [ov] (getMethod ov m pl)
      callWith pos g first (backTo pos (starEach [] X.env)) (backToKw pos (keywordEach [] X.env))) := by rfl) :
    PE X (.Call (.Attribute o m apos) [] [] pos) (rd G W (eMth c m fn da aNil)) :=
  PE_imp (pe_methS0 (pl := pl) (E := WE W) ho M.cl M.m (M.ok.imp fun vs H Q E h => spD_cg ok.K.symm ok.mg.symm vs H Q E h) hr M.b tk ht) fun σ H Q hq => by
    obtain ⟨P, F, Γ, env, h⟩ := meth_tr (by rw [ok.mg]; exact M.g) σ H Q hq
    refine ⟨P, F, Γ, env, ?_⟩
    cases hd : da Γ with
    | ok o1 Γ1 =>
      rw [hd] at h
      intro v F1 H1 e1 env1 ho1
      obtain ⟨a, dx, fs, rfl, h1, h2, P3, F3, Γ3, env3, h3⟩ := h v F1 H1 e1 env1 ho1
      exact ⟨a, dx, fs, rfl, h1, h2, h3 [] F3 H1 (Ext.refl _ _) env3 rfl⟩
    | exc cc fs Γ1 => rw [hd] at h; exact h
    | stuck => rw [hd] at h; exact h.elim
end
end DP

/-! DpOwnOp: operators between two instances of one own class. -/
namespace PySem.W
open PySem PySem.Spec
    PySem.Calls PyProof.Rows
section
variable {prog : Program} {w : World} {A : Around} {E : Value → Shared → Prop} {s : Shared} {K : Frag} {x y C f : Addr} {ox oy : Obj} {od od' : Option Obj}
theorem bin_alike {op : Operator} {Q : Value → Shared → Prop} (X : K.In s.heap) (Ix : InstAt s.heap x ox C od) (Iy : InstAt s.heap y oy C od') (hc : selfFirst K C = true)
    (hs : findIn K (.ref C) (PySem.dunder op.info.2) =
        some (some (.ref f))) (hf : isFn K (.ref f) = true)
    (h : wpAny (model prog w) A (call (.ref f) [.ref x, .ref y]) (CmpBack Q) E s) : wpAny (model prog w) A (binaryOp op (.ref x) (.ref y)) Q E s := by
  obtain ⟨cd, rest, hcd,
      hm⟩ := ksp_first hc
  rcases hi : op.info with ⟨sym,
      nm'⟩
  rw [hi] at hs
  dsimp only at hs
  have one := ksp_try X Ix hs hf h
  obtain ⟨hh, g,
      d, tt, os⟩ := s
  have L1 : Looks (model prog w) hh (typeOf (.ref x)) (.ref C) := Ix.type
  have L2 : Looks (model prog w) hh (typeOf (.ref y)) (.ref C) := Iy.type
  have L3 : Looks (model prog w) hh (fillsNumberSlot (.ref C) nm') true :=
      fills_K X hcd hm hs
  have heq : (Value.ref C == Value.ref C) = true := beq_self_eq_true _
  simp only [binaryOp, hi]
  refine wpAny_holding
      (wpAny_bind ?_)
  unfold binaryOp1
  refine wpAny_bind (L1.at (wpAny_bind
      (L2.at (wpAny_bind (L3.at ?_)))))
  simp only [heq, if_true, Bool.and_false, Bool.false_eq_true, if_false]
  ksp_lk
  refine wpAny_mono one (fun r s' hr' =>
      ?_) fun _ _ e => e
  obtain ⟨v, rfl, hq⟩ := hr'
  ksp_lk
  exact hq
end
end PySem.W
namespace DP
open PySem PySem.Spec
    PyProof.Rows L2
/-- an operator's def in a class -/
structure CalO (P : Program) (w : World) (K : PySem.W.Frag) (mg : Str → Option Value) (base : Heap) (k : Nat) (c nm : Str) (ps : List Str) (fn : Fn) (C f : Addr) (fd : FuncData) : Prop where
  ok : FnOk P w K mg base (L2.CX P w) k f fd ps (spD ⟨K, mg, none, none⟩ fn)
  g : mg c = some (.ref C)
  fst : PySem.W.selfFirst K C = true
  at_ : PySem.W.findIn K (.ref C) nm = some (some (.ref f))
  fn : PySem.W.isFn
      K (.ref f) = true
  b : Binds K fd ps []
def alikeF (c : Str) (fn : Fn) : D → D → Option Opd
  | .ins c1 f1, .ins c2 f2 => if (decide (c1 = c) && decide (c2 = c)) = true then (match fn [.ins c1 f1, .ins c2 f2] with
    | .ok d => some (.val d)
    | _ => none) else none
  | _, _ => none
/-- as OpD, of operands that are shared -/
def OpS (G : Gx) (X : Cx) (opf : Value → Value → Sem Value) (f : D → D → Option Opd) : Prop := ∃ r : R2, OpR X opf r ∧
  ∀ {P F H : Hp} {σ : L2.St} {Γ : Env} {dx dy : D} {x y : V} {o : Opd} {Q : VK}, EnvOk G P F H σ Γ → Rep G F dx x → Rep G F dy y → f dx dy = some o → Go G P F σ Γ o Q → r x y H Q
theorem cx_any {P : Program} {w : World} {l : List PySem.Env} {H : Hp} {s s' : Shared} {e : Value} (h : L2.CX P w l H s (fun _ _ _ => False) e s') : False := by
  obtain ⟨a, B, H1, cls, d, h⟩ := h
  exact h.2.2.2.2.2.2.2
section
variable {G : Gx} {W : WX} {X : Cx}
theorem inst_of {pn : List (Addr × Obj)} {τ : L2.St} {H : Hp} {sh : Shared} {ad C dx : Addr} {fs : List (Str × V)} (Iv : Inv X pn τ H sh) (hh : H ad = some (.ins C dx fs)) : ∃ ox od, PySem.W.InstAt sh.heap ad ox C od := by
  obtain ⟨mA, O, _, _, _, _⟩ := ins_get Iv.hok hh
  obtain ⟨od, ho, _⟩ := lookIn_ns O.ns
  exact ⟨PySem.W.instObj C dx, some od, O.obj, rfl, rfl, ho⟩
theorem op_alike {op : Operator} {c nm : Str} {fn : Fn} {k : Nat} {f C : Addr} {fd : FuncData} {ps : List Str} (M : CalO X.prog X.w X.K X.mg X.base k c nm ps fn C f fd) (hr : Room k X.A) (hnm : PySem.dunder op.info.2 = nm) :
    OpR X (binaryOp op) (fun x y H Q => ∃ p q d1 d2 f1 f2, x = .ref p ∧ y = .ref q ∧ H p = some (.ins C d1 f1) ∧ H q = some (.ins C d2 f2) ∧ spD ⟨X.K, X.mg, none, none⟩ fn [.ref p, .ref q] H Q (fun _ _ _ => False)) := by
  intro pn sh τ Hh x y v u Qk Iv rx ry hq
  obtain ⟨p, q, d1, d2, f1, f2, rfl, rfl, h1, h2, h3⟩ := hq
  obtain rfl : v = Value.ref p :=
      rx
  obtain rfl : u = Value.ref q := ry
  obtain ⟨ox, od, Ix⟩ := inst_of Iv h1
  obtain ⟨oy, od', Iy⟩ := inst_of Iv h2
  subst hnm
  refine PySem.W.bin_alike Iv.kIn Ix Iy M.fst M.at_ M.fn ?_
  refine thn (run_fnS (E := fun _ _ _ _ => False) (σ := τ) (us := [.ref p, .ref q]) (vs := [.ref p, .ref q]) M.ok hr M.b (fun pn H s e s' _ z => (cx_any z).elim) Iv (.cons rfl (.cons rfl .nil)) h3) fun r s' hr' => ?_
  obtain ⟨z, H', I', rz, qz⟩ := hr'
  cases r <;> first | exact ⟨z, H', I', rz, qz⟩ | (cases z <;> first | (cases rz; done) | (obtain ⟨tk, ez⟩ := rz; cases ez))
theorem ops_alike {op : Operator} {c nm : Str} {fn : Fn} {k : Nat} {f C : Addr} {fd : FuncData} {ps : List Str} (M : CalO X.prog X.w X.K X.mg X.base k c nm ps fn C f fd) (ok : Ok G X) (hr : Room k X.A) (hnm : PySem.dunder op.info.2 = nm) : OpS G X (binaryOp op) (alikeF c fn) := by
  refine ⟨_, op_alike M hr hnm, fun {P F H σ Γ dx dy x y o Q} env hx hy hf q => ?_⟩
  cases dx with
  | ins c1 f1 =>
    cases dy with
    | ins c2 f2 =>
      have hf2 : (if (decide (c1 = c) && decide (c2 = c)) = true then (match fn [.ins c1 f1, .ins c2 f2] with | .ok d => some (Opd.val d) | _ => none) else none) = some o := hf
      split at hf2
      · rename_i hc
        rw [Bool.and_eq_true, decide_eq_true_eq, decide_eq_true_eq] at hc
        obtain ⟨rfl, rfl⟩ := hc
        have hx' := hx
        have hy' := hy
        obtain ⟨p, C1, d1, xs1, rfl, h1, h2, h3⟩ := hx
        obtain ⟨r, C2, d2, xs2, rfl, k1, k2, k3⟩ := hy
        have g := M.g
        rw [← ok.mg] at g
        rw [g] at h2 k2
        cases h2
        cases k2
        refine ⟨p, r, d1, d2, xs1, xs2, rfl, rfl, env.fh _ _ h1, env.fh _ _ k1, spD_cg (G := G) ok.K.symm ok.mg.symm _ _ _ _ ⟨F, [.ins c2 f1, .ins c2 f2], env.fh, ⟨_, _, rfl, hx', _, _, rfl, hy', rfl⟩, ?_⟩⟩
        cases hfn : fn [.ins c2 f1, .ins c2 f2] with
        | ok d =>
          rw [hfn] at hf2
          cases hf2
          intro v F' H' sH sF x r
          obtain ⟨env2, x2⟩ := env.after sH sF x
          exact q v F' H' x2 env2 r
        | exc cc fs => rw [hfn] at hf2; cases hf2
        | stuck => rw [hfn] at hf2; cases hf2
      · cases hf2
    | _ => cases hf
  | _ => cases hf
/-- a op b: what own classes say of two shared operands, else as with built-in ones -/
def eBinX (f fO : D → D → Option Opd) (a b : DP.E) : DP.E := fun Γ => (a Γ).bind fun x Γ1 => (b Γ1).bind fun y Γ2 => match x.str, y.str with
  | some dx, some dy => (match fO dx dy with
    | some o => .ok o Γ2
    | none => opt (f dx dy) Γ2)
  | _, _ => match x.get Γ2, y.get Γ2 with
    | some dx, some dy => opt (f dx dy) Γ2
    | _, _ => .stuck
theorem binX_tr {f fO : D → D → Option Opd} {r1 r2 : R2} {da db : DP.E}
    (k1 : ∀ {P F H : Hp} {σ : L2.St} {Γ : Env} {dx dy : D} {x y : V} {o : Opd} {Q : VK}, EnvOk G P F H σ Γ → WRep G F H dx x → WRep G F H dy y → f dx dy = some o → Go G P F σ Γ o Q → r1 x y H Q)
    (k2 : ∀ {P F H : Hp} {σ : L2.St} {Γ : Env} {dx dy : D} {x y : V} {o : Opd} {Q : VK}, EnvOk G P F H σ Γ → Rep G F dx x → Rep G F dy y → fO dx dy = some o → Go G P F σ Γ o Q → r2 x y H Q)
    (σ : L2.St) (H : Hp) (Q : VK) (hq : rd G W (eBinX f fO da db) σ H Q) : tOp (fun x y H Q => r1 x y H Q ∨ r2 x y H Q) (rd G W da) (rd G W db) σ H Q := by
  obtain ⟨P, F, Γ, env, h⟩ := hq
  refine rd_bind env h fun o1 Γ1 v1 F1 H1 e1 env1 ho1 h1 => ?_
  obtain ⟨F2, e2, env2, hw, hst⟩ := OpdOk.wait env1 ho1
  refine rd_bind env2 (EPost.ext e2 h1) fun o2 Γ2 v2 F3 H3 e3 env3 ho3 h3 => ?_
  have plain : ∀ dx dy, o1.get Γ2 = some dx → o2.get Γ2 = some dy → EPost G W P F3 σ Q (opt (f dx dy) Γ2) → r1 v1 v2 H3 Q := fun dx dy hx hy hz => by
    cases hf : f dx dy with
    | none => rw [hf] at hz; exact hz.elim
    | some z =>
      rw [hf] at hz
      exact k1 env3 (hw _ _ _ _ dx e3.sub env3 hx) (OpdOk.read env3 ho3 hy) hf hz
  cases hx : o1.str with
  | none =>
    simp only [hx] at h3
    cases hgx : o1.get Γ2 with
    | none => simp only [hgx] at h3; exact h3.elim
    | some dx =>
      cases hgy : o2.get Γ2 with
      | none => simp only [hgx, hgy] at h3; exact h3.elim
      | some dy =>
        simp only [hgx, hgy] at h3
        exact .inl (plain dx dy hgx hgy h3)
  | some dx =>
    cases hy : o2.str with
    | none =>
      simp only [hx, hy] at h3
      cases hgx : o1.get Γ2 with
      | none => simp only [hgx] at h3; exact h3.elim
      | some dx =>
        cases hgy : o2.get Γ2 with
        | none => simp only [hgx, hgy] at h3; exact h3.elim
        | some dy =>
          simp only [hgx, hgy] at h3
          exact .inl (plain dx dy hgx hgy h3)
    | some dy =>
      simp only [hx, hy] at h3
      have gx : o1.get Γ2 = some dx := by
        cases o1 with
        | val d => exact hx
        | fresh d => exact hx
        | own i => cases hx
      have gy : o2.get Γ2 = some dy := by
        cases o2 with
        | val d => exact hy
        | fresh d => exact hy
        | own i => cases hy
      cases hfo : fO dx dy with
      | none =>
        simp only [hfo] at h3
        exact .inl (plain dx dy gx gy h3)
      | some z =>
        simp only [hfo] at h3
        obtain ⟨F4, e4, env4, r4⟩ := OpdOk.strong env3 ho3 hy
        exact .inr (k2 env4 (hst F4 dx (e3.sub.trans e4.sub) hx) r4 hfo fun v F' H' x ev oo => h3 v F' H' (e4.trans x) ev oo)
theorem de_binX {op : Operator} {f fO : D → D → Option Opd} {a b : Expr} {pos : Pos} {da db : DP.E} (ho : OpD G X (binaryOp op) f) (hO : OpS G X (binaryOp op) fO) (ha : PE X a (rd G W da)) (hb : PE X b (rd G W db)) : PE X (.BinOp a op b pos) (rd G W (eBinX f fO da db)) := by
  obtain ⟨r1, h1, k1⟩ := ho
  obtain ⟨r2, h2, k2⟩ := hO
  exact PE_imp (pe_op (h1.or h2) ha hb) (binX_tr k1 k2)
theorem de_cmpX {op : CmpOp} {f fO : D → D → Option Opd} {a b : Expr} {pos : Pos} {da db : DP.E} (ho : OpD G X (compareOp op) f) (hO : OpS G X (compareOp op) fO) (ha : PE X a (rd G W da)) (hb : PE X b (rd G W db)) (hm : behindInMarks op b = false := by first | exact nomark _ | rfl) : PE X (.Compare a [op] [b] pos) (rd G W (eBinX f fO da db)) := by
  obtain ⟨r1, h1, k1⟩ := ho
  obtain ⟨r2, h2, k2⟩ := hO
  exact PE_imp (pe_cmpR (h1.or h2) ha hb hm) (binX_tr k1 k2)
theorem dt_cmpX {op : CmpOp} {f fO : D → D → Option Opd} {a b : Expr} {pos : Pos} {da db : DP.E} (ho : OpD G X (compareOp op) f) (hO : OpS G X (compareOp op) fO) (ha : PE X a (rd G W da)) (hb : PE X b (rd G W db)) (hm : behindInMarks op b = false := by first | exact nomark _ | rfl) : PT X (.Compare a [op] [b] pos) (rdT G W (tE (eBinX f fO da db))) := by
  obtain ⟨r1, h1, k1⟩ := ho
  obtain ⟨r2, h2, k2⟩ := hO
  refine PT_imp (pt_cmpR (h1.or h2) ha hb hm) fun σ H Q hq => ?_
  obtain ⟨P, F, Γ, env, h⟩ := hq
  have h : TPost G W P F σ Q (tE (eBinX f fO da db) Γ) := h
  refine binX_tr k1 k2 σ H _ ?_
  refine rd_bindG (Post := fun F r => TPost G W P F σ Q r) env h (fun z => z) (fun _ _ _ z => z) (fun _ _ e z => z.ext e) fun o1 Γ1 v1 F1 H1 e1 env1 ho1 h1 => ?_
  cases o1 with
  | fresh d => exact h1.elim
  | own i => exact h1.elim
  | val d =>
    cases d with
    | bl k => exact ⟨k, ho1, h1 F1 H1 (Ext.refl _ _) env1⟩
    | _ => exact h1.elim
end
end DP

/-! DpOwnCmp: == and minus of instances of own classes. -/
namespace DP
open PySem PySem.Spec
    PyProof.Rows L2
section
variable {G : Gx} {W : WX} {X : Cx} {c nm : Str} {fn : Fn} {k : Nat} {f C : Addr} {fd : FuncData} {ps : List Str}
theorem un_alike (M : CalO X.prog X.w X.K X.mg X.base k c nm ps fn C f fd) (hr : Room k X.A) (hnm : nm = "__neg__") :
    UnR X (unaryOp .USub) (fun x H Q => ∃ p d1 f1, x = .ref p ∧ H p = some (.ins C d1 f1) ∧ spD ⟨X.K, X.mg, none, none⟩ fn [.ref p] H Q (fun _ _ _ => False)) := by
  intro pn sh τ Hh x v Qk Iv rx hq
  obtain ⟨p, d1, f1, rfl, h1, h3⟩ := hq
  obtain rfl : v = Value.ref p :=
      rx
  obtain ⟨ox, od, Ix⟩ := inst_of Iv h1
  subst hnm
  unfold unaryOp
  refine wpAny_holding ?_
  exact wpAny_bind (PySem.W.special_fn Iv.kIn Ix M.at_ (beq_iff_eq.mp M.fn) (wpAny_mono (run_fnS (E := fun _ _ _ _ => False) (σ := τ) (us := [.ref p]) (vs := [.ref p]) M.ok hr M.b (fun pn H s e s' _ z => (cx_any z).elim) Iv (.cons rfl .nil) h3) (fun _ _ z => wpAny_pure z) fun _ _ z => z))
def alikeU (c : Str) (fn : Fn) (f : D → Option Opd) : D → Option Opd
  | .ins c1 f1 => if c1 = c then (match fn [.ins c1 f1] with
    | .ok d => some (.val d)
    | _ => none) else none
  | d => f d
theorem op_alikeC {op : CmpOp} (hop : ∀ a b, compareOp op a b = richCompare op a b) (M : CalO X.prog X.w X.K X.mg X.base k c nm ps fn C f fd) (hr : Room k X.A) (hnm : (cmpInfo op).2.1 = nm) :
    OpR X (compareOp op) (fun x y H Q => ∃ p q d1 d2 f1 f2, x = .ref p ∧ y = .ref q ∧ H p = some (.ins C d1 f1) ∧ H q = some (.ins C d2 f2) ∧ spD ⟨X.K, X.mg, none, none⟩ fn [.ref p, .ref q] H Q (fun _ _ _ => False)) := by
  intro pn sh τ Hh x y v u Qk Iv rx ry hq
  obtain ⟨p, q, d1, d2, f1, f2, rfl, rfl, h1, h2, h3⟩ := hq
  obtain rfl : v = Value.ref p :=
      rx
  obtain rfl : u = Value.ref q := ry
  obtain ⟨ox, od, Ix⟩ := inst_of Iv h1
  obtain ⟨oy, od', Iy⟩ := inst_of Iv h2
  obtain ⟨m, hF⟩ := Iv.fr
  subst hnm
  rw [hop]
  have hnf : PySem.W.notFirst X.K C (.ref C) = true := by
    unfold PySem.W.notFirst
    rw [beq_self_eq_true]
    rfl
  refine PySem.W.cmp_K (op := op) (tb := .ref C) hr.units0 hF Iv.ok.mod.kin Ix Iy.type hnf M.at_ M.fn ?_
  refine thn (run_fnS (E := fun _ _ _ _ => False) (σ := τ) (us := [.ref p, .ref q]) (vs := [.ref p, .ref q]) M.ok hr M.b (fun pn H s e s' _ z => (cx_any z).elim) Iv (.cons rfl (.cons rfl .nil)) h3) fun r s' hr' => ?_
  obtain ⟨z, H', I', rz, qz⟩ := hr'
  cases r <;> first | exact ⟨z, H', I', rz, qz⟩ | (cases z <;> first | (cases rz; done) | (obtain ⟨tk, ez⟩ := rz; cases ez))
theorem ops_of {opf : Value → Value → Sem Value} (hg : X.mg c = some (.ref C)) (ok : Ok G X)
    (h : OpR X opf (fun x y H Q => ∃ p q d1 d2 f1 f2, x = .ref p ∧ y = .ref q ∧ H p = some (.ins C d1 f1) ∧ H q = some (.ins C d2 f2) ∧ spD ⟨X.K, X.mg, none, none⟩ fn [.ref p, .ref q] H Q (fun _ _ _ => False))) : OpS G X opf (alikeF c fn) := by
  refine ⟨_, h, fun {P F H σ Γ dx dy x y o Q} env hx hy hf q => ?_⟩
  cases dx with
  | ins c1 f1 =>
    cases dy with
    | ins c2 f2 =>
      have hf2 : (if (decide (c1 = c) && decide (c2 = c)) = true then (match fn [.ins c1 f1, .ins c2 f2] with | .ok d => some (Opd.val d) | _ => none) else none) = some o := hf
      split at hf2
      · rename_i hc
        rw [Bool.and_eq_true, decide_eq_true_eq, decide_eq_true_eq] at hc
        obtain ⟨rfl, rfl⟩ := hc
        have hx' := hx
        have hy' := hy
        obtain ⟨p, C1, d1, xs1, rfl, h1, h2, h3⟩ := hx
        obtain ⟨r, C2, d2, xs2, rfl, k1, k2, k3⟩ := hy
        have g := hg
        rw [← ok.mg] at g
        rw [g] at h2 k2
        cases h2
        cases k2
        refine ⟨p, r, d1, d2, xs1, xs2, rfl, rfl, env.fh _ _ h1, env.fh _ _ k1, spD_cg (G := G) ok.K.symm ok.mg.symm _ _ _ _ ⟨F, [.ins c2 f1, .ins c2 f2], env.fh, ⟨_, _, rfl, hx', _, _, rfl, hy', rfl⟩, ?_⟩⟩
        cases hfn : fn [.ins c2 f1, .ins c2 f2] with
        | ok d =>
          rw [hfn] at hf2
          cases hf2
          intro v F' H' sH sF x r
          obtain ⟨env2, x2⟩ := env.after sH sF x
          exact q v F' H' x2 env2 r
        | exc cc fs => rw [hfn] at hf2; cases hf2
        | stuck => rw [hfn] at hf2; cases hf2
      · cases hf2
    | _ => cases hf
  | _ => cases hf
theorem ops_alikeC {op : CmpOp} (hop : ∀ a b, compareOp op a b = richCompare op a b) (M : CalO X.prog X.w X.K X.mg X.base k c nm ps fn C f fd) (ok : Ok G X) (hr : Room k X.A) (hnm : (cmpInfo op).2.1 = nm) : OpS G X (compareOp op) (alikeF c fn) := ops_of M.g ok (op_alikeC hop M hr hnm)
end
end DP

/-! DpNewD: instances made with defaults, shared at once. -/
namespace DP
open PySem PySem.Spec
    PyProof.Rows L2
/-- C(..), shared at once; dd the defaults that are not given -/
def eNewS (fn : Fn) (dd : List D) (t : As) : DP.E := fun Γ => (t Γ).bind fun os Γ1 => giveR .val (fun ds => fn (ds ++ dd)) os Γ1
section
variable {G : Gx} {W : WX} {X : Cx} {o e value : Expr} {es : List Expr} {pos p apos cpos p2 pos' : Pos} {da db dc : DP.E} {t : As}
theorem run_makeD {cx : CXT} {k : Nat} {f C : Addr} {fd : FuncData} {ps : List Str} {sp : Sp} {E : XK} {pins : List (Addr × Obj)} {σ : L2.St} {H : Hp} {s : Shared} {Q : VK} {us gs : List Value} {vs dvs : List V} (M : Mk X.K C f) (Fo : FnOk X.prog X.w X.K X.mg X.base cx k f fd ps sp) (hr : Room (k + 1) X.A) (hb : Binds X.K fd ps gs) (hd : Vals dvs gs)
    (hx : PassesAt cx X σ E) (Iv : Inv X pins σ H s) (r : Vals vs us)
    (h : ∀ x dx, H x = none → H dx = none → dx ≠ x → sp (.ref x :: (vs ++ dvs)) (upd (upd H dx (.own x)) x (.ins C dx [])) (fun v H2 =>
        v = .non ∧ Q (.ref x) H2) E) :
    wpAny (model X.prog X.w) X.A (call (.ref C) us) (EP X pins σ Q) X.xe s :=
        by
  have hq := h (s.heap.objs.size + 1) s.heap.objs.size (Iv.hok.fresh (Nat.le_succ _)) (Iv.hok.fresh (Nat.le_refl _)) (Nat.ne_of_lt (Nat.lt_succ_self _))
  have I2 := Inv.made (C := C) Iv
  have r2 : Vals (V.ref (s.heap.objs.size + 1) :: (vs ++ dvs)) (Value.ref (s.heap.objs.size + 1) :: (us ++ gs)) := .cons rfl (r.append hd)
  have hl : (Value.ref (s.heap.objs.size + 1) :: us ++ gs).length = ps.length := by
    have z := r2.length
    rw [Fo.len _ _ _ _ hq] at z
    exact z.symm
  refine wpAny_call (make_map (f := f) Iv.kIn M.makes M.init (beq_iff_eq.mp M.fn) (codeAny_mono (Fo.run _ X.stack _ _ ⟨Value.ref (s.heap.objs.size + 1) :: us, []⟩ (Value.ref (s.heap.objs.size + 1) :: (us ++ gs)) _ _ E (hr.make C us [])
    (I2.env0.make C us []) (hb _ (Value.ref (s.heap.objs.size + 1) :: us) I2.kIn hl) r2 hq) fun rr s' hq' => ?_))
  cases rr with
  | error er => exact hx pins _ _ er s' I2 hq'
  | ok fl =>
    cases fl with
    | ret u =>
      obtain ⟨v, H', I3, rv,
          ev, q3⟩ := I2.after hq'
      subst ev
      exact ⟨rv, ⟨V.ref (s.heap.objs.size + 1),
          H', I3, rfl, q3⟩⟩
    | next => exact hq'.elim
    | brk => exact hq'.elim
    | cont => exact hq'.elim
theorem newS_tr {c : Str} {fn : Fn} {C : Addr} {dvs : List V} {dd : List D} (ok : Ok G X) (hm : X.mg c = some (.ref C)) (hdd : ∀ F, Reps G F dd dvs) (τ : L2.St) (Hh : Hp) (Qk : VK) (hq : rd G W (eNewS fn dd t) τ Hh Qk) :
    rdA G W t τ Hh (fun vs H1 => ∀ x dx, H1 x = none → H1 dx = none → dx ≠ x → spI ⟨X.K, X.mg, none, none⟩ c fn (.ref x :: (vs ++ dvs)) (upd (upd H1 dx (.own x)) x (.ins C dx [])) (fun v H2 => v = .non ∧ Qk (.ref x) H2) (fun cls d H' => W cls d τ H')) := by
  obtain ⟨P, F0, Γ, env, h⟩ := hq
  refine rdA_bind env h fun os Γ1 vs F1 H1 e1 env1 ho h1 => ?_
  intro x dx hx hdx hne
  unfold giveR at h1
  cases hgs : gets Γ1 os with
  | none => rw [hgs] at h1; exact h1.elim
  | some ds =>
    rw [hgs] at h1
    dsimp only at h1
    obtain ⟨F2, e2, env2, r2⟩ := give_ok env1 ho hgs
    have env3 := env2.new (u := HO.own x) hdx
    have nx : (upd H1 dx (.own x)) x = none := by rw [upd_ne (Ne.symm hne)]; exact hx
    have hol : ∀ ad, hole (upd (upd H1 dx (.own x)) x (.ins C dx [])) x ad = (upd H1 dx (.own x)) ad := fun ad => by
      by_cases ha : ad = x
      · subst ha; rw [hole_at, nx]
      · rw [hole_ne ha, upd_ne ha]
    have hS : ∀ {H' : Hp}, Same (hole (upd (upd H1 dx (.own x)) x (.ins C dx [])) x) H' → Same (upd H1 dx (.own x)) H' := fun {H'} s ad o' e' => s ad o' ((hol ad).trans e')
    have hE : ∀ {F' : Hp}, Ext (hole (upd (upd H1 dx (.own x)) x (.ins C dx [])) x) F2 F' → Ext (upd H1 dx (.own x)) F2 F' := fun {F'} s => ⟨s.sub, fun ad o' e' => (s.new ad o' e').imp id fun z => (hol ad).symm.trans z⟩
    refine spI_cg (G := G) ok.K.symm ok.mg.symm _ _ _ _ ⟨F2, ds ++ dd, x, C, dx, vs ++ dvs, rfl, env2.fh.free hx, (env3.new (u := HO.ins C dx []) nx).fh, upd_same, by rw [ok.mg]; exact hm, r2.append (hdd F2), ?_⟩
    cases hf : fn (ds ++ dd) with
    | ok d =>
      rw [hf] at h1
      intro F' H' k1 k2 k3 k4 k5
      obtain ⟨env4, x4⟩ := env3.after (hS k1) k2 (hE k3)
      obtain ⟨F5, e5, env5, r5⟩ := OpdOk.strong (o := .fresh d) env4 ⟨x, rfl, env2.pf.free hx, k4, k5, env2.notOwn hx⟩ rfl
      exact ⟨rfl, h1 (.ref x) F5 H' ((e2.trans x4).trans e5) env5 r5⟩
    | exc cc fs =>
      rw [hf] at h1
      intro F' H' cls d k1 k2 k3 k4
      obtain ⟨env4, x4⟩ := env3.after (hS k1) k2 (hE k3)
      exact h1 F' H' cls d (e2.trans x4) env4 k4
    | stuck => rw [hf] at h1; exact h1.elim
theorem de_newS {cx : CXT} {c : Str} {fn : Fn} {k : Nat} {f C : Addr} {fd : FuncData} {ps : List Str} {gs : List Value} {dvs : List V} (dd : List D) (M : Mk X.K C f) (ok : Ok G X) (Fo : FnOk X.prog X.w X.K X.mg X.base cx k f fd ps (spI ⟨X.K, X.mg, none, none⟩ c fn)) (hr : Room (k + 1) X.A) (hg : Gl X c) (hm : X.mg c = some (.ref C)) (hb : Binds X.K fd ps gs) (hd : Vals dvs gs) (hdd : ∀ F, Reps G F dd dvs)
    (tk : Lets cx X W) (ha : PA X (e :: es) (rdA G W t)) (hdb : (c == ("__debug__" : Str)) = false := by decide) (he : starEach (e :: es) X.env = (false, eval e X.env) :: starEach es X.env := by rfl) (hpl : (backTo pos (starEach es X.env)).any (·.1) = false := by rfl) :
    PE X (.Call (.Name c p) (e :: es) [] pos) (rd G W (eNewS fn dd t)) := by
  refine ⟨fun pn sh τ Hh Qk Iv hq => ?_⟩
  refine wpAny_Call_Name_kw (ld_glob Iv hg hm ?_ hdb)
  refine PySem.W.callWith_K (h₀ := X.base) Iv.ok.mod.kin M.kp (thn (ha.run pos pn sh τ Hh _ Iv (newS_tr ok hm hdd τ Hh Qk hq)) fun us s1 ⟨vs, H1, I1, r, q⟩ => ⟨I1.kIn, ?_⟩) he hpl
  exact run_makeD M Fo hr hb hd (tk τ) I1 r q
/-- cls(e, ..), cls the class that slot 0 is held to be -/
theorem de_newL {cx : CXT} {c x : Str} {fn : Fn} {k : Nat} {f C : Addr} {fd : FuncData} {ps : List Str} {gs : List Value} {dvs : List V} (dd : List D) (M : Mk X.K C f) (ok : Ok G X) (Fo : FnOk X.prog X.w X.K X.mg X.base cx k f fd ps (spI ⟨X.K, X.mg, none, none⟩ c fn)) (hr : Room (k + 1) X.A) (hN : X.N[0]? = some x) (hv : Vis X.env.scope x) (hme : G.me = some C) (hm : X.mg c = some (.ref C)) (hb : Binds X.K fd ps gs) (hd : Vals dvs gs) (hdd : ∀ F, Reps G F dd dvs)
    (tk : Lets cx X W) (ha : PA X (e :: es) (rdA G W t)) (hdb : (x == ("__debug__" : Str)) = false := by decide) (hcd : (x == ("__classdict__" : Str)) = false := by decide) (he : starEach (e :: es) X.env = (false, eval e X.env) :: starEach es X.env := by rfl) (hpl : (backTo pos (starEach es X.env)).any (·.1) = false := by rfl) :
    PE X (.Call (.Name x p) (e :: es) [] pos) (rd G W (eNewS fn dd t)) := by
  refine ⟨fun pn sh τ Hh Qk Iv hq => ?_⟩
  have h0 : τ[0]? = some (some (.ref C)) := by
    obtain ⟨P, F, Γ, env, _⟩ := hq
    exact env.me0 C hme
  refine wpAny_Call_Name_kw (thn ((pe_var (pos := p) hN hv hdb hcd).run pn sh τ Hh (fun v H1 => v = .ref C ∧ H1 = Hh) Iv ⟨.ref C, h0, rfl, rfl⟩) fun u s1 ⟨v, H1, I1, r1, q1⟩ => ?_)
  obtain ⟨rfl, rfl⟩ := q1
  cases r1
  refine PySem.W.callWith_K (h₀ := X.base) I1.ok.mod.kin M.kp (thn (ha.run pos pn s1 τ _ _ I1 (newS_tr ok hm hdd τ _ Qk hq)) fun us s1 ⟨vs, H1, I1, r, q⟩ => ⟨I1.kIn, ?_⟩) he hpl
  exact run_makeD M Fo hr hb hd (tk τ) I1 r q
end
end DP

/-! DpTxt: texts: methods, str(..), int(..). -/
namespace DP
open PySem PySem.Spec
    PyProof.Rows L2
/-- s.m(y), s a text -/
def eM1 (f : Str → D → Option Opd) (a b : DP.E) : DP.E := fun Γ => (a Γ).bind fun x Γ1 => match x.str with
  | some (.str s) => (b Γ1).bind fun y Γ2 => (match y.get Γ2 with
    | some dy => opt (f s dy) Γ2
    | none => .stuck)
  | _ => .stuck
def txts : List D → Option (List Str)
  | [] => some []
  | .str s :: r => (txts r).map (s :: ·)
  | _ => none
def joinOk (s : Str) (ys : List Str) : Bool := decide ((ys.map (·.length)).sum + ys.length * s.length ≤ 1000000)
def joinF (s : Str) : D → Option Opd
  | .lst xs => match txts xs with
    | some ys => if joinOk s ys = true then ov (.str (Txt.join s ys)) else none
    | none => none
  | .tup xs => match txts xs with
    | some ys => if joinOk s ys = true then ov (.str (Txt.join s ys)) else none
    | none => none
  | _ => none
def splitF (s : Str) : D → Option Opd
  | .str b => if (!(b.length == 0) && decide (s.length ≤ 1000000)) = true then of (.lst ((Txt.split s b).map D.str)) else none
  | _ => none
def strF : List D → Option Opd
  | [.int i] => if i.natAbs.log2 < 1920 then ov (.str (Str.ofString (toString i))) else none
  | [.str s] => ov (.str s)
  | _ => none
def intTF : List D → Option Opd
  | [.str s] => match PySem.intText? s with
    | some n => if s.length ≤ 640 then ov (.int n) else none
    | none => none
  | ds => intF ds
section
variable {G : Gx} {W : WX} {X : Cx} {o e : Expr} {pos apos : Pos} {da db : DP.E}
theorem txts_is {F : Hp} : ∀ {xs : List D} {ys : List Str} {vs : List V}, txts xs = some ys → Reps G F xs vs → vs = ys.map V.str
  | [], ys, vs, h, r => by
    cases h
    exact r
  | .str s :: xs, ys, vs, h, r => by
    obtain ⟨v, q, rfl, h1, h2⟩ := r
    have h : (txts xs).map (s :: ·) = some ys := h
    cases ht : txts xs with
    | none =>
        rw [ht] at h; cases h
    | some zs =>
      rw [ht] at h
      cases h
      rw [txts_is ht h2, show v = V.str s from h1]
      rfl
  | .non :: _, _, _, h, _ => by cases h
  | .bl _ :: _, _, _, h, _ => by cases h
  | .int _ :: _, _, _, h, _ => by cases h
  | .tup _ :: _, _, _, h, _ => by cases h
  | .lst _ :: _, _, _, h, _ => by cases h
  | .scr _ :: _, _, _, h, _ => by cases h
  | .dK _ :: _, _, _, h, _ => by cases h
  | .dT _ :: _, _, _, h, _ => by cases h
  | .ins _ _ :: _, _, _, h, _ => by cases h
theorem reps_txt {F : Hp} : ∀ ys : List Str, Reps G F (ys.map D.str) (ys.map V.str)
  | [] => rfl
  | y :: r => ⟨_, _, rfl, rfl, reps_txt r⟩
theorem m1_tr {f : Str → D → Option Opd} {r : V → List V → Hp → VK → Prop} (hr : ∀ {P F H : Hp} {σ : L2.St} {Γ : Env} {s : Str} {dy : D} {y : V} {z : Opd} {Q : VK}, EnvOk G P F H σ Γ → WRep G F H dy y → f s dy = some z → Go G P F σ Γ z Q → r (.str s) [y] H Q)
    (σ : L2.St) (H : Hp) (Q : VK) (hq : rd G W (eM1 f da db) σ H Q) : tM1 r (rd G W da) (rd G W db) σ H Q := by
  obtain ⟨P, F, Γ, env, h⟩ := hq
  refine rd_bind env h fun o1 Γ1 v1 F1 H1 e1 env1 ho1 h1 => ?_
  cases hx : o1.str with
  | none => simp only [hx] at h1; exact h1.elim
  | some dx =>
    simp only [hx] at h1
    obtain ⟨F2, e2, env2, r2⟩ := OpdOk.strong env1 ho1 hx
    cases dx with
    | str s =>
      obtain rfl : v1 = V.str s := r2
      refine ⟨⟨s, rfl⟩, ?_⟩
      refine rd_bind env2 (EPost.ext e2 h1) fun o2 Γ2 v2 F3 H3 e3 env3 ho3 h3 => ?_
      cases hy : o2.get Γ2 with
      | none => simp only [hy] at h3; exact h3.elim
      | some dy =>
        simp only [hy] at h3
        cases hf : f s dy with
        | none => rw [hf] at h3; exact h3.elim
        | some z =>
          rw [hf] at h3
          exact hr env3 (OpdOk.read env3 ho3 hy) hf h3
    | _ => exact h1.elim
theorem de_join (ok : Ok G X) (ho : PE X o (rd G W da)) (he : PE X e (rd G W db)) (hs : starEach [e] X.env = [(false, eval e X.env)] := by rfl) (hbase : attributeBase o "join" X.env (eval o X.env) = eval o X.env := by rfl) (hline : (apos.endLine == pos.line) = true := by rfl) :
    PE X (.Call (.Attribute o "join" apos) [e] [] pos) (rd G W (eM1 joinF da db)) := by
  refine PE_imp (pe_join ho he hs hbase hline) (m1_tr fun {P F H σ Γ s dy y z Q} env hw hf q => ?_)
  have fin : ∀ (ys : List Str) (p : Addr), joinOk s ys = true → (SqL X.K H p (ys.map V.str) ∨ SqT X.K H p (ys.map V.str)) → z = .val (.str (Txt.join s ys)) → y = .ref p →
      ∃ a p, ∃ ys : List Str, V.str s = .str a ∧ [y] = [.ref p] ∧ (SqL X.K H p (ys.map V.str) ∨ SqT X.K H p (ys.map V.str)) ∧ (ys.map (·.length)).sum + ys.length * a.length ≤ 16777216 ∧ Q (.str (Txt.join a ys)) H := by
    rintro ys p h1 h2 rfl rfl
    refine ⟨s, p, ys, rfl, rfl, h2, Nat.le_trans (of_decide_eq_true h1) (by decide), q.val env rfl⟩
  cases dy with
  | lst xs =>
    have hf : (match txts xs with | some ys => if joinOk s ys = true then ov (.str (Txt.join s ys)) else none | none => none) = some z := hf
    cases ht : txts xs with
    | none => rw [ht] at hf; cases hf
    | some ys =>
      rw [ht] at hf
      dsimp only at hf
      split at hf
      · rename_i hj
        cases hf
        obtain ⟨p, vs, rfl, h1, h2⟩ := hw.lst env.fh
        rw [txts_is ht h2] at h1
        exact fin ys p hj (.inl (SqL.of h1)) rfl rfl
      · cases hf
  | tup xs =>
    have hf : (match txts xs with | some ys => if joinOk s ys = true then ov (.str (Txt.join s ys)) else none | none => none) = some z := hf
    cases ht : txts xs with
    | none => rw [ht] at hf; cases hf
    | some ys =>
      rw [ht] at hf
      dsimp only at hf
      split at hf
      · rename_i hj
        cases hf
        obtain ⟨p, vs, rfl, h1, _, h2⟩ := hw.tup env.fh
        rw [txts_is ht h2, ok.K] at h1
        exact fin ys p hj (.inr h1) rfl rfl
      · cases hf
  | _ => cases hf
theorem de_split (ho : PE X o (rd G W da)) (he : PE X e (rd G W db)) (hs : starEach [e] X.env = [(false, eval e X.env)] := by rfl) (hbase : attributeBase o "split" X.env (eval o X.env) = eval o X.env := by rfl) (hline : (apos.endLine == pos.line) = true := by rfl) :
    PE X (.Call (.Attribute o "split" apos) [e] [] pos) (rd G W (eM1 splitF da db)) := by
  refine PE_imp (pe_split ho he hs hbase hline) (m1_tr fun {P F H σ Γ s dy y z Q} env hw hf q => ?_)
  cases dy with
  | str b =>
    have hf : (if (!(b.length == 0) && decide (s.length ≤ 1000000)) = true then of (.lst ((Txt.split s b).map D.str)) else none) = some z := hf
    split at hf
    · rename_i hc
      rw [Bool.and_eq_true, Bool.not_eq_true', decide_eq_true_eq] at hc
      cases hf
      rw [hw.str]
      refine ⟨s, b, rfl, rfl, hc.1, ?_, fun p hp => q.newL env hp (reps_txt _)⟩
      have : (1000000 : Nat) + 2 ≤ sizeLine := by decide
      omega
    · cases hf
  | _ => cases hf
theorem cbd_strT : CBD G X (.type "str") strF := by
  refine ⟨fun xs H Q => (∃ i : Int, xs = [.int i] ∧ i.natAbs.log2 < 1920 ∧ Q (.str (toString i)) H) ∨ ∃ a, xs = [.str a] ∧ Q (.str a) H, ?_, fun {P F H σ Γ ds vs z Q} env hw hf q => ?_⟩
  · intro pn sh τ Hh xs us Qk Iv r hq
    rcases hq with hq | hq
    · exact call_str_int pn sh τ Hh xs us Qk Iv r hq
    · exact SkE.call_str_str pn sh τ Hh xs us Qk Iv r hq
  · unfold strF at hf
    split at hf
    · rename_i i
      obtain ⟨v, rfl, h1⟩ := hw.one
      rw [h1.int]
      split at hf
      · rename_i hl
        cases hf
        exact .inl ⟨i, rfl, hl, q.val env rfl⟩
      · cases hf
    · rename_i s
      obtain ⟨v, rfl, h1⟩ := hw.one
      rw [h1.str]
      cases hf
      exact .inr ⟨s, rfl, q.val env rfl⟩
    · cases hf
end
end DP

/-! DpIsa: isinstance of any data against one class. -/
namespace DP
open PySem PySem.Spec
    PyProof.Rows L2
def tyNm : D → Option String
  | .dK _ => some "dict"
  | .dT _ => some "dict"
  | d => tyName d
/-- the answers by the names of built-in classes and of own ones -/
def isAF (ansB : String → Option Bool) (ansC : Str → Option Bool) : D → Option Opd
  | .ins c _ => (ansC c).map fun b => .val (.bl b)
  | d => match tyNm d with
    | some a => (ansB a).map fun b => .val (.bl b)
    | none => none
/-- what isinstance asks of an own class whose instance it is given -/
structure InsTy (K : PySem.W.Frag) (C : Addr) : Prop where
  cl : Cls K C
  ha : PySem.W.findIn K (.ref C) "__class__"
      = some (some (.builtin "object.__class__"))
  hn : PySem.W.specialIn K (.builtin "object.__class__")
      "__get__" = some (some (.builtin "getset_descriptor.__get__"))
  ht : PySem.W.takesIn K (.builtin
      "object.__class__") = some true
  hm : PySem.W.mroIn K C
      (.type "object") = some true
structure IsaOk (X : Cx) (u : Value) (ansB : String → Option Bool) (ansC : Str → Option Bool) : Prop where
  bs : ∀ a b, ansB a = some b → PySem.W.kitOne X.K (.type a) u = some b
  cs : ∀ c b, ansC c = some b → ∀ C, X.mg c = some (.ref C) → InsTy X.K C ∧ PySem.W.kitOne X.K (.ref C) u = some b
section
variable {G : Gx} {W : WX} {X : Cx} {a : Expr} {pos p : Pos} {da : DP.E}
theorem wrep_tyN {F H : Hp} {d : D} {v : V} {nm : String} (fh : Same F H) (h : WRep G F H d v) (e : tyNm d = some nm) : TyX G.K H v (.type nm) := by
  cases d with
  | dK k =>
    cases e
    obtain ⟨q, xs, rfl, h1, _⟩ := h.dK fh
    exact .base (.dK h1)
  | dT k =>
    cases e
    obtain ⟨q, xs, rfl, h1, _⟩ := h.dT fh
    exact .base (.dT h1)
  | ins c fs => cases e
  | non => exact wrep_ty fh h e
  | bl x => exact wrep_ty fh h e
  | int x => exact wrep_ty fh h e
  | str x => exact wrep_ty fh h e
  | tup x => exact wrep_ty fh h e
  | lst x => exact wrep_ty fh h e
  | scr x => exact wrep_ty fh h e
theorem isa_rule {u : Value} {cV : V} {ansB : String → Option Bool} {ansC : Str → Option Bool} (ok : Ok G X) (hk : ClsV cV u) (T : IsaOk X u ansB ansC) {P F H : Hp} {σ : L2.St} {Γ : Env} {d : D} {v : V} {z : Opd} {Q : VK} (env : EnvOk G P F H σ Γ) (hv : WRep G F H d v) (e : isAF ansB ansC d = some z) (q : Go G P F σ Γ z Q) : rIsi X.K [v, cV] H Q := by
  have builtin : ∀ nm, tyNm d = some nm → (ansB nm).map (fun b => Opd.val (.bl b)) = some z → rIsi X.K [v, cV] H Q := fun nm h1 h2 => by
    cases hb : ansB nm with
    | none => rw [hb] at h2; cases h2
    | some b =>
      rw [hb] at h2
      cases h2
      exact ⟨v, cV, .type nm, u, b, rfl, hk, by rw [← ok.K]; exact wrep_tyN env.fh hv h1, T.bs nm b hb, q.val env rfl⟩
  cases d with
  | ins c fs =>
    have e : (ansC c).map (fun b => Opd.val (.bl b)) = some z := e
    cases hb : ansC c with
    | none => rw [hb] at e; cases e
    | some b =>
      rw [hb] at e
      cases e
      obtain ⟨ad, C, dx, xs, rfl, h1, h2, _⟩ := hv.ins env.fh
      obtain ⟨t, k⟩ := T.cs c b hb C (by rw [← ok.mg]; exact h2)
      exact ⟨.ref ad, cV, .ref C, u, b, rfl, hk, .base (.ins h1 t.cl t.ha t.hn t.ht t.hm), k, q.val env rfl⟩
  | non => exact builtin _ rfl e
  | bl x => exact builtin _ rfl e
  | int x => exact builtin _ rfl e
  | str x => exact builtin _ rfl e
  | tup x => exact builtin _ rfl e
  | lst x => exact builtin _ rfl e
  | scr x => exact builtin _ rfl e
  | dK x => exact builtin _ rfl e
  | dT x => exact builtin _ rfl e
theorem de_isA {T : Str} {pT : Pos} {u : Value} {cV : V} {ansB : String → Option Bool} {ansC : Str → Option Bool} (ok : Ok G X) (hk : ClsV cV u) (Tb : IsaOk X u ansB ansC) (hg : Gl X "isinstance") (hm : X.mg "isinstance" = none) (hT : PE X (.Name T pT) (tC cV)) (ha : PE X a (rd G W da))
    (he : starEach (a :: [.Name T pT]) X.env = (false, eval a X.env) :: starEach [.Name T pT] X.env := by rfl) (he2 : starEach [.Name T pT] X.env = (false, eval (.Name T pT) X.env) :: starEach [] X.env := by rfl) (hpl : (backTo pos (starEach [.Name T pT] X.env)).any (·.1) = false := by rfl) :
    PE X (.Call (.Name "isinstance" p) [a, .Name T pT] [] pos) (rd G W (eUn (isAF ansB ansC) da)) :=
  PE_imp (pe_callB call_isi hg hm (by decide +kernel) (pa_cons ha (pa_cons hT pa_nil he2) he) (by decide) (by decide) he hpl) (un_tr (r := fun x H Q => rIsi X.K [x, cV] H Q) fun {P F H σ Γ dx x o Q} env hw e q => isa_rule ok hk Tb env hw e q)
end
end DP

/-! DpProp: properties of own classes (whose getters raise nothing). -/
namespace DP
open PySem PySem.Spec
    PyProof.Rows L2
def isIns (c : Str) : D → Bool
  | .ins c' _ => decide (c' = c)
  | _ => false
/-- only what ends well -/
def calm (r : R Opd) : R Opd := match r with
  | .ok o Γ => .ok o Γ
  | _ => .stuck
def eProp (c : Str) (fn : Fn) (a : DP.E) : DP.E := fun Γ => (a Γ).bind fun x Γ1 => match x.get Γ1 with
  | some d => if isIns c d = true then calm (giveR .val fn [x] Γ1) else .stuck
  | none => .stuck
structure CalP (P : Program) (w : World) (K : PySem.W.Frag) (mg : Str → Option Value) (base : Heap) (k : Nat) (c f : Str) (ps : List Str) (fn : Fn) (C p g : Addr) (fd : FuncData) : Prop where
  ok : FnOk P w K mg base (L2.CX P w) k g fd ps (spD ⟨K, mg, none, none⟩ fn)
  mc : mg c = some (.ref C)
  cl : Cls K C
  pr : PropOf K C f p g
  b : Binds K fd ps []
section
variable {G : Gx} {W : WX} {X : Cx} {e : Expr} {pos : Pos} {da : DP.E}
theorem passes_no : Passes (L2.CX X.prog X.w) X (fun _ _ _ => False) := fun _ _ _ _ _ _ _ h => (cx_any h).elim
theorem give_calm {fn : Fn} {P F H : Hp} {σ : L2.St} {Γ : Env} {os : List Opd} {vs : List V} {Q : VK} (env : EnvOk G P F H σ Γ) (ho : WOpds G F σ os vs) (h : EPost G W P F σ Q (calm (giveR .val fn os Γ))) : spD G fn vs H Q (fun _ _ _ => False) := by
  refine give_tr (W := W0) env ho ?_
  cases hr : giveR .val fn os Γ with
  | ok o Γ' => rw [hr] at h; exact h
  | exc c fs Γ' => rw [hr] at h; exact h.elim
  | stuck => rw [hr] at h; exact h.elim
theorem de_prop {c f : Str} {fn : Fn} {k : Nat} {C p g : Addr} {fd : FuncData} {ps : List Str} (M : CalP X.prog X.w X.K X.mg X.base k c f ps fn C p g fd) (ok : Ok G X) (hr : Room (k + 1) X.A) (ha : PE X e (rd G W da)) (hab : attributeBase e f X.env (eval e X.env) = eval e X.env := by rfl) :
    PE X (.Attribute e f pos) (rd G W (eProp c fn da)) := by
  refine PE_imp (pe_prop ha M.cl M.pr (M.ok.imp fun vs H Q E h => spD_cg ok.K.symm ok.mg.symm vs H Q E h) hr M.b .nil (fun pins σ H s er s' I h => (cx_any h).elim) hab) fun σ H Q hq => ?_
  obtain ⟨P, F, Γ, env, h⟩ := hq
  refine rd_bind env h fun o1 Γ1 v1 F1 H1 e1 env1 ho1 h1 => ?_
  cases hd : o1.get Γ1 with
  | none => simp only [hd] at h1; exact h1.elim
  | some d =>
    simp only [hd] at h1
    split at h1
    · rename_i hi
      cases d with
      | ins c' fs =>
        have hc : c' = c := of_decide_eq_true hi
        subst hc
        obtain ⟨a, C', dx, xs, rfl, k1, k2, k3⟩ := (OpdOk.read env1 ho1 hd).ins env1.fh
        have hg := M.mc
        rw [← ok.mg] at hg
        rw [hg] at k2
        cases k2
        refine ⟨a, dx, xs, rfl, k1, ?_⟩
        obtain ⟨F2, e2, env2, hw⟩ := wopd_of env1 ho1
        exact give_calm env2 (os := [o1]) ⟨_, _, rfl, hw F2 (Same.refl _), rfl⟩ (EPost.ext e2 h1)
      | _ => cases hi
    · exact h1.elim
end
end DP

/-! DpTru: the truth of an instance whose class has a __bool__. -/
namespace DP
open PySem PySem.Spec
    PyProof.Rows L2
def boolOf (r : R Opd) : R Bool := match r with
  | .ok (.val (.bl k)) Γ => .ok k Γ
  | _ => .stuck
def tTruX (c : Str) (fn : Fn) (a : DP.E) : DP.T := fun Γ => (a Γ).bind fun x Γ1 => match x.get Γ1 with
  | some d => if isIns c d = true then boolOf (giveR .val fn [x] Γ1) else opt (truth d) Γ1
  | none => .stuck
section
variable {G : Gx} {W : WX} {X : Cx} {e : Expr} {da : DP.E}
theorem tru_own {c : Str} {fn : Fn} {k : Nat} {f C : Addr} {fd : FuncData} {ps : List Str} (M : CalO X.prog X.w X.K X.mg X.base k c "__bool__" ps fn C f fd) (hr : Room k X.A) :
    TruR X (fun x H Q => ∃ p d1 f1, x = .ref p ∧ H p = some (.ins C d1 f1) ∧ spD ⟨X.K, X.mg, none, none⟩ fn [.ref p] H (fun v H' => ∃ b, v = .bl b ∧ Q b H') (fun _ _ _ => False)) := by
  intro pn sh τ Hh x v Qk Iv rx hq
  obtain ⟨p, d1, f1, rfl, h1, h3⟩ := hq
  obtain rfl : v = Value.ref p :=
      rx
  obtain ⟨ox, od, Ix⟩ := inst_of Iv h1
  obtain ⟨m, hF⟩ := Iv.fr
  refine PySem.W.truthy_K hF Iv.ok.mod.kin Ix M.at_ M.fn ?_
  refine thn (run_fnS (E := fun _ _ _ _ => False) (σ := τ) (us := [.ref p]) (vs := [.ref p]) M.ok hr M.b (fun pn H s e s' _ z => (cx_any z).elim) Iv (.cons rfl .nil) h3) fun r s' hr' => ?_
  obtain ⟨z, H', I', rz, b, rfl, qz⟩ := hr'
  obtain rfl : r = Value.bool b := rz
  exact ⟨H', I', qz⟩
theorem dt_truX {c : Str} {fn : Fn} {k : Nat} {f C : Addr} {fd : FuncData} {ps : List Str} (M : CalO X.prog X.w X.K X.mg X.base k c "__bool__" ps fn C f fd) (ok : Ok G X) (hr : Room k X.A) (ha : PE X e (rd G W da)) (he : ∀ whole, isTrue e X.env whole = (do let v ← whole; standAt e.pos; holding [v] (truthy v)) := by intro _; rfl) :
    PT X e (rdT G W (tTruX c fn da)) := by
  have both : TruR X (fun x H Q => (∃ k, TruV X.K x H k ∧ Q k H) ∨ ∃ p d1 f1, x = .ref p ∧ H p = some (.ins C d1 f1) ∧ spD ⟨X.K, X.mg, none, none⟩ fn [.ref p] H (fun v H' => ∃ b, v = .bl b ∧ Q b H') (fun _ _ _ => False)) := fun pn sh τ Hh x v Qk Iv rx hq => by
    rcases hq with hq | hq
    · exact tru_ok pn sh τ Hh x v Qk Iv rx hq
    · exact tru_own M hr pn sh τ Hh x v Qk Iv rx hq
  refine PT_imp (pt_truthR ha both he) fun σ H Q hq => ?_
  obtain ⟨P, F, Γ, env, h⟩ := hq
  have h : TPost G W P F σ Q (tTruX c fn da Γ) := h
  refine rd_bindG (Post := fun F r => TPost G W P F σ Q r) env h (fun z => z) (fun _ _ _ z => z) (fun _ _ e z => z.ext e) fun o1 Γ1 v1 F1 H1 e1 env1 ho1 h1 => ?_
  cases hx : o1.get Γ1 with
  | none => simp only [hx] at h1; exact h1.elim
  | some d =>
    simp only [hx] at h1
    split at h1
    · rename_i hi
      cases d with
      | ins c' fs =>
        have hc : c' = c := of_decide_eq_true hi
        subst hc
        obtain ⟨a, C', dx, xs, rfl, k1, k2, k3⟩ := (OpdOk.read env1 ho1 hx).ins env1.fh
        have hg := M.g
        rw [← ok.mg] at hg
        rw [hg] at k2
        cases k2
        refine .inr ⟨a, dx, xs, rfl, k1, spD_cg (G := G) ok.K.symm ok.mg.symm _ _ _ _ ?_⟩
        obtain ⟨F2, e2, env2, hw⟩ := wopd_of env1 ho1
        refine give_tr (W := W0) (Γ := Γ1) env2 (os := [o1]) ⟨_, _, rfl, hw F2 (Same.refl _), rfl⟩ ?_
        have h2 := TPost.ext e2 h1
        cases hgv : giveR .val fn [o1] Γ1 with
        | ok z Γ' =>
          rw [hgv] at h2
          intro v F' H' e' ev r
          cases z with
          | val dd =>
            cases dd with
            | bl b =>
              exact ⟨b, r, h2 F' H' e' ev⟩
            | _ => exact h2.elim
          | _ => exact h2.elim
        | exc _ _ _ => rw [hgv] at h2; exact h2.elim
        | stuck => rw [hgv] at h2; exact h2.elim
      | _ => cases hi
    · cases ht : truth d with
      | none => rw [ht] at h1; exact h1.elim
      | some k =>
        rw [ht] at h1
        refine .inl ⟨k, truth_rep ok env1.fh (OpdOk.read env1 ho1 hx) ht (fun s hs => ?_), h1 F1 H1 (Ext.refl _ _) env1⟩
        subst hs
        have h2 : (if s.length ≤ 1000000 then some (s.length != 0) else none) = some k := ht
        split at h2
        · rename_i hl; exact line_le hl
        · cases h2
end
end DP

/-! DpNeg: minus of a number or of an instance whose class has a __neg__. -/
namespace DP
open PySem PySem.Spec
    PyProof.Rows L2
def eNegX (c : Str) (fn : Fn) (a : DP.E) : DP.E := fun Γ => (a Γ).bind fun x Γ1 => match x.get Γ1 with
  | some d => if isIns c d = true then calm (giveR .val fn [x] Γ1) else opt (negF d) Γ1
  | none => .stuck
section
variable {G : Gx} {W : WX} {X : Cx} {e : Expr} {pos : Pos} {da : DP.E}
theorem de_negX {c : Str} {fn : Fn} {k : Nat} {f C : Addr} {fd : FuncData} {ps : List Str} (M : CalO X.prog X.w X.K X.mg X.base k c "__neg__" ps fn C f fd) (ok : Ok G X) (hr : Room k X.A) (ha : PE X e (rd G W da)) : PE X (.UnaryOp .USub e pos) (rd G W (eNegX c fn da)) := by
  have both : UnR X (unaryOp .USub) (fun x H Q => (∃ i, x = .int i ∧ Q (.int (-i)) H) ∨ ∃ p d1 f1, x = .ref p ∧ H p = some (.ins C d1 f1) ∧ spD ⟨X.K, X.mg, none, none⟩ fn [.ref p] H Q (fun _ _ _ => False)) := fun pn sh τ Hh x v Qk Iv rx hq => by
    rcases hq with hq | hq
    · exact un_neg pn sh τ Hh x v Qk Iv rx hq
    · exact un_alike M hr rfl pn sh τ Hh x v Qk Iv rx hq
  refine PE_imp (pe_un both ha) fun σ H Q hq => ?_
  obtain ⟨P, F, Γ, env, h⟩ := hq
  refine rd_bind env h fun o1 Γ1 v1 F1 H1 e1 env1 ho1 h1 => ?_
  cases hx : o1.get Γ1 with
  | none => simp only [hx] at h1; exact h1.elim
  | some d =>
    simp only [hx] at h1
    split at h1
    · rename_i hi
      cases d with
      | ins c' fs =>
        have hc : c' = c := of_decide_eq_true hi
        subst hc
        obtain ⟨a, C', dx, xs, rfl, k1, k2, k3⟩ := (OpdOk.read env1 ho1 hx).ins env1.fh
        have hg := M.g
        rw [← ok.mg] at hg
        rw [hg] at k2
        cases k2
        obtain ⟨F2, e2, env2, hw⟩ := wopd_of env1 ho1
        exact .inr ⟨a, dx, xs, rfl, k1, spD_cg (G := G) ok.K.symm ok.mg.symm _ _ _ _ (give_calm env2 (os := [o1]) ⟨_, _, rfl, hw F2 (Same.refl _), rfl⟩ (EPost.ext e2 h1))⟩
      | _ => cases hi
    · cases d with
      | int i =>
        have hv := (OpdOk.read env1 ho1 hx).int
        subst hv
        exact .inl ⟨i, rfl, h1 (.int (-i)) F1 H1 (Ext.refl _ _) env1 rfl⟩
      | _ => exact h1.elim
end
end DP

/-! DpPart: s.partition(t); more of texts. -/
namespace DP
open PySem PySem.Spec
    PyProof.Rows L2
def partF (s : Str) : D → Option Opd
  | .str b => if (!(b.length == 0) && decide (s.length ≤ 1000000)) = true then ov (.tup [.str (Txt.partition s b).1, .str (Txt.partition s b).2.1, .str (Txt.partition s b).2.2]) else none
  | _ => none
section
variable {G : Gx} {W : WX} {X : Cx} {o e : Expr} {pos apos : Pos} {da db : DP.E}
theorem laidP {pn : List (Addr × Obj)} {τ : L2.St} {H : Hp} {sh : Shared} {Qk : VK} {x y z : Str} {t u v : Tok} {k : Nat} (Iv : Inv X pn τ H sh) (h : ∀ p (ob : Obj), ob.dict = none → H p = none → Qk (.ref p) (upd H p (.frz ob (.tup [.str x, .str y, .str z])))) :
    EP X pn τ Qk (.ref sh.heap.objs.size) { sh with toks := k, heap := sh.heap.push { cls := .type "tuple", data := .seq [Value.str x t, .str y u, .str z v].toArray } } :=
  ⟨.ref sh.heap.objs.size, _, laidZ (xs := [.str x, .str y, .str z]) (t' := k) Iv (.cons ⟨t, rfl⟩ (.cons ⟨u, rfl⟩ (.cons ⟨v, rfl⟩ .nil))) (by show 3 ≤ sizeLine; decide), rfl, h _ _ rfl (Iv.hok.fresh (Nat.le_refl _))⟩
theorem mt_partZ : MtR X "str.partition" (fun x xs H Q => ∃ a b, x = .str a ∧ xs = [.str b] ∧ (b.length == 0) = false ∧ a.length ≤ sizeLine ∧
    ∀ p (ob : Obj), ob.dict = none → H p = none → Q (.ref p) (upd H p (.frz ob (.tup [.str (Txt.partition a b).1, .str (Txt.partition a b).2.1, .str (Txt.partition a b).2.2])))) := by
  intro pn sh τ Hh x xs v us Qk Iv rx rs h
  obtain ⟨a, b, rfl,
      rfl, hb, hz, h⟩ := h
  obtain ⟨t, rfl⟩ := rx
  cases rs with
  | cons r1 rs =>
    cases rs
    obtain ⟨u, rfl⟩ := r1
    refine call_meets PySem.F.slot_str_partition (typeIs_str _ _ _) PySem.F.entry_str_partition (PySem.F.args_str_partition_2 _ _) (meets_str_partition a b t u hb hz) ?_
    unfold Txt.partition at h
    revert h
    cases Builtin.Str.occurrences
        a b 0 a.length 1 with
    | nil => intro h; exact laidP Iv h
    | cons i r => intro h; exact laidP Iv h
theorem de_partition (ho : PE X o (rd G W da)) (he : PE X e (rd G W db)) (hs : starEach [e] X.env = [(false, eval e X.env)] := by rfl) (hbase : attributeBase o "partition" X.env (eval o X.env) = eval o X.env := by rfl) (hline : (apos.endLine == pos.line) = true := by rfl) :
    PE X (.Call (.Attribute o "partition" apos) [e] [] pos) (rd G W (eM1 partF da db)) := by
  refine PE_imp (L2.pe_m1 PySem.F.slot_str_partition PySem.F.type_str_partition mt_partZ ho he hs hbase hline) (m1_tr fun {P F H σ Γ s dy y z Q} env hw hf q => ?_)
  cases dy with
  | str b =>
    have hf : (if (!(b.length == 0) && decide (s.length ≤ 1000000)) = true then ov (.tup [.str (Txt.partition s b).1, .str (Txt.partition s b).2.1, .str (Txt.partition s b).2.2]) else none) = some z := hf
    split at hf
    · rename_i hc
      rw [Bool.and_eq_true, Bool.not_eq_true', decide_eq_true_eq] at hc
      cases hf
      rw [hw.str]
      exact ⟨s, b, rfl, rfl, hc.1, line_le hc.2, fun p ob hob hp => q.newT env hp hob (⟨_, _, rfl, rfl, _, _, rfl, rfl, _, _, rfl, rfl, rfl⟩)⟩
    · cases hf
  | _ => cases hf
end
end DP

/-! DpTxt2: rules joined by or; len, [i], [a:b], in, < of texts. -/
namespace DP
open PySem PySem.Spec
    PyProof.Rows L2
/-- the first that answers -/
def or1 {α β : Type} (f g : α → Option β) : α → Option β := fun x => match f x with
  | some o => some o
  | none => g x
def or2 {α β γ : Type} (f g : α → β → Option γ) : α → β → Option γ := fun x y => match f x y with
  | some o => some o
  | none => g x y
def or3 {α β γ δ : Type} (f g : α → β → γ → Option δ) : α → β → γ → Option δ := fun x y z => match f x y z with
  | some o => some o
  | none => g x y z
theorem or1_some {α β : Type} {f g : α → Option β} {x : α} {o : β} (h : or1 f g x = some o) : f x = some o ∨ g x = some o := by
  unfold or1 at h
  cases hf : f x with
  | none => rw [hf] at h; exact .inr h
  | some z => rw [hf] at h; exact .inl h
theorem or2_some {α β γ : Type} {f g : α → β → Option γ} {x : α} {y : β} {o : γ} (h : or2 f g x y = some o) : f x y = some o ∨ g x y = some o := by
  unfold or2 at h
  cases hf : f x y with
  | none => rw [hf] at h; exact .inr h
  | some z => rw [hf] at h; exact .inl h
theorem or3_some {α β γ δ : Type} {f g : α → β → γ → Option δ} {x : α} {y : β} {z : γ} {o : δ} (h : or3 f g x y z = some o) : f x y z = some o ∨ g x y z = some o := by
  unfold or3 at h
  cases hf : f x y z with
  | none => rw [hf] at h; exact .inr h
  | some z => rw [hf] at h; exact .inl h
def lenTF : List D → Option Opd
  | [.str s] => if s.length ≤ 1000000 then ov (.int (s.length : Nat)) else none
  | _ => none
def atC (l : List Nat) (i : Int) : Option Nat := if 0 ≤ i then (if i < l.length then l[i.toNat]? else none) else if -(l.length : Int) ≤ i then l[(i + l.length).toNat]? else none
def slTF : D → Option Int → Option Int → Option Opd
  | .str s, lo, hi => if s.length ≤ 1000000 then ov (.str (cutS s lo hi)) else none
  | _, _, _ => none
def inTF : D → D → Option Opd
  | .str i, .str j => ov (.bl (!(Builtin.Str.occurrences j i 0 j.length 1).isEmpty))
  | _, _ => none
def notInTF : D → D → Option Opd
  | .str i, .str j => ov (.bl (!(!(Builtin.Str.occurrences j i 0 j.length 1).isEmpty)))
  | _, _ => none
def ltTF : D → D → Option Opd
  | .str i, .str j => ov (.bl (decide (i.cps.toList < j.cps.toList)))
  | _, _ => none
section
variable {G : Gx} {X : Cx}
theorem CBD.or {fv : Value} {f g : List D → Option Opd} (h1 : CBD G X fv f) (h2 : CBD G X fv g) : CBD G X fv (or1 f g) := by
  obtain ⟨r1, a1, b1⟩ := h1
  obtain ⟨r2, a2, b2⟩ := h2
  refine ⟨fun xs H Q => r1 xs H Q ∨ r2 xs H Q, fun pn sh τ Hh xs us Qk Iv r hq => ?_, fun {P F H σ Γ ds vs o Q} env hv e q => ?_⟩
  · rcases hq with hq | hq
    · exact a1 pn sh τ Hh xs us Qk Iv r hq
    · exact a2 pn sh τ Hh xs us Qk Iv r hq
  · rcases or1_some e with e | e
    · exact .inl (b1 env hv e q)
    · exact .inr (b2 env hv e q)
theorem OpD.or {opf : Value → Value → Sem Value} {f g : D → D → Option Opd} (h1 : OpD G X opf f) (h2 : OpD G X opf g) : OpD G X opf (or2 f g) := by
  obtain ⟨r1, a1, b1⟩ := h1
  obtain ⟨r2, a2, b2⟩ := h2
  refine ⟨_, a1.or a2, fun {P F H σ Γ dx dy x y o Q} env hx hy e q => ?_⟩
  rcases or2_some e with e | e
  · exact .inl (b1 env hx hy e q)
  · exact .inr (b2 env hx hy e q)
theorem IxD.or {f g : D → D → Option Opd} (h1 : IxD G X f) (h2 : IxD G X g) : IxD G X (or2 f g) := by
  obtain ⟨r1, a1, b1⟩ := h1
  obtain ⟨r2, a2, b2⟩ := h2
  refine ⟨_, IxR.or a1 a2, fun {P F H σ Γ dx dy x y o Q} env hx hy e q => ?_⟩
  rcases or2_some e with e | e
  · exact .inl (b1 env hx hy e q)
  · exact .inr (b2 env hx hy e q)
theorem SlD.or {f g : D → Option Int → Option Int → Option Opd} (h1 : SlD G X f) (h2 : SlD G X g) : SlD G X (or3 f g) := by
  obtain ⟨r1, a1, b1⟩ := h1
  obtain ⟨r2, a2, b2⟩ := h2
  refine ⟨_, L2.SlR.or a1 a2, fun {P F H σ Γ dx x lo hi o Q} env hx e q => ?_⟩
  rcases or3_some e with e | e
  · exact .inl (b1 env hx e q)
  · exact .inr (b2 env hx e q)
theorem cbd_lenT : CBD G X (.builtin "len") lenTF := by
  refine ⟨_, call_len_str, fun {P F H σ Γ ds vs o Q} env hv e q => ?_⟩
  unfold lenTF at e
  split at e
  · rename_i s
    obtain ⟨v, rfl, h1⟩ := hv.one
    split at e
    · rename_i hl
      cases e
      exact ⟨s, by rw [h1.str], line_le hl, q.val env rfl⟩
    · cases e
  · cases e
theorem sld_T : SlD G X slTF := by
  refine ⟨_, sl_str, fun {P F H σ Γ dx x lo hi o Q} env hx e q => ?_⟩
  cases dx with
  | str s =>
    have e : (if s.length ≤ 1000000 then ov (.str (cutS s lo hi)) else none) = some o := e
    split at e
    · rename_i hl
      cases e
      exact ⟨s, hx.str, line_le hl, q.val env rfl⟩
    · cases e
  | _ => cases e
theorem opd_inT : OpD G X (compareOp .In) inTF := by
  refine ⟨_, op_in_str, fun {P F H σ Γ dx dy x y o Q} env hx hy e q => ?_⟩
  cases dx with
  | str i =>
    cases dy with
    | str j =>
      cases e
      exact ⟨i, j, hx.str, hy.str, q.val env rfl⟩
    | _ => cases e
  | _ => cases e
theorem opd_notInT : OpD G X (compareOp .NotIn) notInTF := by
  refine ⟨_, op_notin_str, fun {P F H σ Γ dx dy x y o Q} env hx hy e q => ?_⟩
  cases dx with
  | str i =>
    cases dy with
    | str j =>
      cases e
      exact ⟨i, j, hx.str, hy.str, q.val env rfl⟩
    | _ => cases e
  | _ => cases e
theorem opd_ltT : OpD G X (compareOp .Lt) ltTF := by
  refine ⟨_, op_lt_str, fun {P F H σ Γ dx dy x y o Q} env hx hy e q => ?_⟩
  cases dx with
  | str i =>
    cases dy with
    | str j =>
      cases e
      exact ⟨i, j, hx.str, hy.str, q.val env rfl⟩
    | _ => cases e
  | _ => cases e
end
end DP

/-! DpTxt3: s[i], for over a text. -/
namespace DP
open PySem PySem.Spec
    PyProof.Rows L2
def ixTF : D → D → Option Opd
  | .str s, .int i => if s.length ≤ 1000000 then (atI s.cps.toList i).map fun c => .val (.str ⟨#[c]⟩) else none
  | _, _ => none
def signs (s : Str) : List D := s.cps.toList.map fun c => D.str ⟨#[c]⟩
def iTxt (a : DP.E) : DP.It := fun Γ => (a Γ).bind fun x Γ1 => match x.str with
  | some (.str s) => .ok (signs s) Γ1
  | _ => .stuck
section
variable {G : Gx} {W : WX} {X : Cx} {da : DP.E}
theorem ixd_T : IxD G X ixTF := by
  refine ⟨_, ix_str, fun {P F H σ Γ dx dy x y o Q} env hx hy e q => ?_⟩
  cases dx with
  | str s =>
    cases dy with
    | int i =>
      have e : (if s.length ≤ 1000000 then (atI s.cps.toList i).map (fun c => Opd.val (.str ⟨#[c]⟩)) else none) = some o := e
      split at e
      · rename_i hl
        cases hc : atI s.cps.toList i with
        | none => rw [hc] at e; cases e
        | some c =>
          rw [hc] at e
          cases e
          exact ⟨s, i, c, hx.str, hy.int, line_le hl, hc, q.val env rfl⟩
      · cases e
    | _ => cases e
  | _ => cases e
theorem jok_txt {F : Hp} (s : Str) : JOk G false F (signs s) (Its s) where
  go := fun i H e hi => by
    have hi : i < (s.cps.toList.map fun c => D.str ⟨#[c]⟩).length := hi
    rw [List.length_map, Array.length_toList] at hi
    exact hi
  stop := fun H e => by
    show s.cps.size ≤ (s.cps.toList.map fun c => D.str ⟨#[c]⟩).length
    rw [List.length_map,
        Array.length_toList]
    exact Nat.le_refl _
  yld := fun i H d x H' e hd hy => by
    obtain ⟨rfl, c, hc, rfl⟩ := hy
    have hd : (s.cps.toList.map fun c => D.str ⟨#[c]⟩)[i]? = some d := hd
    rw [List.getElem?_map, Array.getElem?_toList, hc] at hd
    cases hd
    exact .inl ⟨rfl, rfl⟩
theorem tri_txt : TrI G W false (iStr (rd G W da)) (iTxt da) := fun σ H R hq => by
  obtain ⟨P, F, Γ, env, h⟩ := hq
  have h : IPost G W false P F σ R ((da Γ).bind fun x Γ1 => match x.str with | some (.str s) => DP.R.ok (signs s) Γ1 | _ => .stuck) := h
  refine rd_bindG (Post := fun F r => IPost G W false P F σ R r) env h (fun z => z) (fun _ _ _ z => z) (fun _ _ e z => z.ext e) fun o1 Γ1 v1 F1 H1 e1 env1 ho1 h1 => ?_
  cases hx : o1.str with
  | none => simp only [hx] at h1; exact h1.elim
  | some d =>
    simp only [hx] at h1
    obtain ⟨F2, e2, env2, r2⟩ := OpdOk.strong env1 ho1 hx
    cases d with
    | str s =>
      obtain rfl : v1 = V.str s := r2
      exact ⟨s, rfl, h1 (Its s) F2 H1 e2 env2 (jok_txt s)⟩
    | _ => exact h1.elim
end
end DP

/-! DpSum: sum of ints; any, all of truth values. -/
namespace DP
open PySem PySem.Spec
    PyProof.Rows L2
def blsOf : List D → Option (List Bool)
  | [] => some []
  | .bl b :: r => (blsOf r).map (b :: ·)
  | _ => none
def sumF : List D → Option Opd
  | [.lst xs] => match intsOf xs with
    | some ns => ov (.int ns.sum)
    | none => none
  | _ => none
def anyF : List D → Option Opd
  | [.lst xs] => match blsOf xs with
    | some bs => ov (.bl (bs.any id))
    | none => none
  | _ => none
def allF : List D → Option Opd
  | [.lst xs] => match blsOf xs with
    | some bs => ov (.bl (bs.all id))
    | none => none
  | _ => none
section
variable {G : Gx} {X : Cx}
theorem ints_is {F : Hp} : ∀ {xs : List D} {ys : List Int} {vs : List V}, intsOf xs = some ys → Reps G F xs vs → vs = ys.map V.int
  | [], ys, vs, h, r => by
    cases h
    exact r
  | d :: xs, ys, vs, h, r => by
    obtain ⟨v, q, rfl, h1, h2⟩ := r
    cases d with
    | int i =>
      have h : (intsOf xs).map (i :: ·) = some ys := h
      cases ht : intsOf xs with
      | none =>
          rw [ht] at h; cases h
      | some zs =>
        rw [ht] at h
        cases h
        rw [ints_is ht h2, show v = V.int i from h1]
        rfl
    | _ => cases h
theorem bls_is {F : Hp} : ∀ {xs : List D} {ys : List Bool} {vs : List V}, blsOf xs = some ys → Reps G F xs vs → vs = ys.map V.bl
  | [], ys, vs, h, r => by
    cases h
    exact r
  | d :: xs, ys, vs, h, r => by
    obtain ⟨v, q, rfl, h1, h2⟩ := r
    cases d with
    | bl i =>
      have h : (blsOf xs).map (i :: ·) = some ys := h
      cases ht : blsOf xs with
      | none =>
          rw [ht] at h; cases h
      | some zs =>
        rw [ht] at h
        cases h
        rw [bls_is ht h2, show v = V.bl i from h1]
        rfl
    | _ => cases h
theorem cbd_sum (hc : X.calm = true) : CBD G X (.builtin "sum") sumF := by
  refine ⟨_, cr_sum hc, fun {P F H σ Γ ds vs o Q} env hv e q => ?_⟩
  unfold sumF at e
  split at e
  · rename_i xs
    split at e
    · rename_i ns hn
      cases e
      obtain ⟨v, rfl, h1⟩ := hv.one
      obtain ⟨a, us, rfl, h2, h3⟩ := h1.lst env.fh
      rw [ints_is hn h3] at h2
      exact ⟨a, ns, rfl, SqL.of h2, q.val env rfl⟩
    · cases e
  · cases e
theorem cbd_any (hc : X.calm = true) : CBD G X (.builtin "any") anyF := by
  refine ⟨_, cr_any hc, fun {P F H σ Γ ds vs o Q} env hv e q => ?_⟩
  unfold anyF at e
  split at e
  · rename_i xs
    split at e
    · rename_i ns hn
      cases e
      obtain ⟨v, rfl, h1⟩ := hv.one
      obtain ⟨a, us, rfl, h2, h3⟩ := h1.lst env.fh
      rw [bls_is hn h3] at h2
      exact ⟨a, ns, rfl, SqL.of h2, q.val env rfl⟩
    · cases e
  · cases e
theorem cbd_all (hc : X.calm = true) : CBD G X (.builtin "all") allF := by
  refine ⟨_, cr_all hc, fun {P F H σ Γ ds vs o Q} env hv e q => ?_⟩
  unfold allF at e
  split at e
  · rename_i xs
    split at e
    · rename_i ns hn
      cases e
      obtain ⟨v, rfl, h1⟩ := hv.one
      obtain ⟨a, us, rfl, h2, h3⟩ := h1.lst env.fh
      rw [bls_is hn h3] at h2
      exact ⟨a, ns, rfl, SqL.of h2, q.val env rfl⟩
    · cases e
  · cases e
end
end DP

/-! DpGcd: int of a text, gcd. -/
namespace DP
open PySem PySem.Spec
    PyProof.Rows L2
def intSF : List D → Option Opd
  | [.str s] => match PySem.intText? s with
    | some n => if s.length ≤ 640 then ov (.int n) else none
    | none => none
  | _ => none
section
variable {G : Gx} {W : WX} {X : Cx} {e : Expr} {es : List Expr} {p pos : Pos} {t : As}
theorem cbd_intS : CBD G X (.type "int") intSF := by
  refine ⟨_, call_int_str, fun {P F H σ Γ ds vs o Q} env hv h q => ?_⟩
  unfold intSF at h
  split at h
  · rename_i s
    split at h
    · rename_i n hn
      split at h
      · rename_i hl
        cases h
        obtain ⟨v, rfl, h1⟩ := hv.one
        exact ⟨s, n, by rw [h1.str], hn, hl, q.val env rfl⟩
      · cases h
    · cases h
  · cases h
/-- a built-in function that the module has imported by name -/
theorem de_cbF {x : Str} {id : String} {f : List D → Option Opd} (hc : CBD G X (.builtin id) f) (hg : Gl X x) (hm : X.mg x = some (.builtin id)) (ha : PA X (e :: es) (rdA G W t)) (hdb : (x == ("__debug__" : Str)) = false := by decide)
    (he : starEach (e :: es) X.env = (false, eval e X.env) :: starEach es X.env := by rfl) (hpl : (backTo pos (starEach es X.env)).any (·.1) = false := by rfl) : PE X (.Call (.Name x p) (e :: es) [] pos) (rd G W (eCB f t)) := by
  obtain ⟨r, h1, h2⟩ := hc
  exact PE_imp (pe_callBfun h1 hg hm ha hdb he hpl) (cb_tr h2)
def gcdF : List D → Option Opd
  | [.int a, .int b] => ov (.int ((Nat.gcd a.natAbs b.natAbs : Nat) : Int))
  | _ => none
theorem cbd_gcd : CBD G X (.builtin "math.gcd") gcdF := by
  refine ⟨_, cr_gcd, fun {P F H σ Γ ds vs o Q} env hv h q => ?_⟩
  unfold gcdF at h
  split at h
  · rename_i a b
    cases h
    obtain ⟨v, r, rfl, h1, h2⟩ := hv
    obtain ⟨w, rfl, h3⟩ := WReps.one h2
    rw [h1.int, h3.int]
    exact ⟨a, b, rfl, q.val env rfl⟩
  · cases h
/-- // by any divisor but zero -/
def fdivZF : D → D → Option Opd
  | .int i, .int j => if (decide (j ≠ 0) && decide (j.natAbs.log2 < 9000)) = true then ov (.int (i.fdiv j)) else none
  | _, _ => none
theorem op_fdivZ : OpR X (binaryOp .FloorDiv) (rI (fun _ j => j ≠ 0 ∧ j.natAbs.log2 < 9000) fun i j => .int (i.fdiv j)) := opI fun _ _ _ _ _ _ _ hc q => floordiv_int hc.1 q (.inl (PyProof.noPylong_of_log2 (by have := hc.2; omega)))
theorem opd_fdivZ : OpD G X (binaryOp .FloorDiv) fdivZF := opd_IC op_fdivZ fun dx dy o e => by
  cases dx with
  | int i =>
    cases dy with
    | int j =>
      have e : (if (decide (j ≠ 0) && decide (j.natAbs.log2 < 9000)) = true then ov (.int (i.fdiv j)) else none) = some o := e
      split at e
      · rename_i hc
        rw [Bool.and_eq_true, decide_eq_true_eq, decide_eq_true_eq] at hc
        cases e
        exact ⟨i, j, rfl, rfl, hc, rfl⟩
      · cases e
    | _ => cases e
  | _ => cases e
end
end DP

/-! DpDef: an __init__ with defaults keeps its promise. -/
namespace DP
open PySem PySem.Spec
    PyProof.Rows L2
section
variable {P : Program} {w : World} {K : PySem.W.Frag}
    {mg : Str → Option Value} {base : Heap}
theorem okID {cx : CXT} {c qual : Str} {params : Arguments} {body : List Stmt} {scope : Scope} {dvs : List V} {kws : List (Str × V)} {f : Addr} {fd : FuncData} {N ps : List Str} {k np n : Nat} {den : DP.S} (Fu : FunD K "__init__" qual params body scope dvs kws f fd) (S : FnScope N ps scope) (hN : N.length = n + 1) (hp : ps.length = np) (hnp : np ≤ n + 1)
    (hb : ∀ (x : Addr) (cdv : Value) (A : Around) (outer : List PySem.Env) (s : Shared) (H : Hp) (E : XK), Room k (A.deeper (envOfC qual scope s.heap.objs.size f cdv)) →
      PSs (cxOf cx P w K mg base N qual scope f cdv A outer s H E) body (rs ⟨K, mg, none, some x⟩ (fun cls d _ H => E cls d H) den)) :
    FnOk P w K mg base cx (k + 1) f fd ps (spI ⟨K, mg, none, none⟩ c (runInit c np (n + 1) den)) := by
  refine Fu.ok S (fun vs H Q E h => ?_) (fun cdv A outer s H vs Q E hr h => ?_)
  · obtain ⟨F, ds, x, C, dx, us, rfl, _, _, _, _, r, h⟩ := h
    unfold runInit at h
    by_cases hl : ds.length + 1 = np
    · show us.length + 1 = ps.length
      rw [r.length, hl, hp]
    · rw [if_neg hl] at h
      exact h.elim
  · obtain ⟨F, ds, x, C, dx, us, rfl, h1, h2, h3, h4, r, h⟩ := h
    refine ⟨_, hb x cdv A outer s H E hr, ?_⟩
    unfold runInit at h
    by_cases hl : ds.length + 1 = np
    · rw [if_pos hl] at h
      refine ⟨hole H x, F, .ow (.ins c []) :: startEnv n ds, env_init (G := ⟨K, mg, none, some x⟩) rfl h2 h1 h3 h4 (Reps.cg (G := ⟨K, mg, none, none⟩) (G' := ⟨K, mg, none, some x⟩) rfl rfl r) hN (by omega), ?_⟩
      have hsub : n + 1 - 1 = n := rfl
      rw [hsub] at h
      cases hd : den (.ow (.ins c []) :: startEnv n ds) with
      | next Γ' =>
        rw [hd] at h
        dsimp only at h
        intro σ' F' H' e' env'
        cases hs : Γ'[0]? with
        | none => rw [hs] at h; exact h.elim
        | some sl =>
          rw [hs] at h
          cases sl with
          | ow d =>
            obtain ⟨ad, k1, k2, k3, k4⟩ := env'.slot 0 _ hs
            have k5 := env'.me0 x rfl
            rw [k1] at k5
            cases k5
            exact h F' H' env'.pf env'.fh e' k3 (OwnAt.cg (G := ⟨K, mg, none, some _⟩) (G' := ⟨K, mg, none, none⟩) rfl rfl k4)
          | no => exact h.elim
          | sh _ => exact h.elim
          | ex _ _ => exact h.elim
      | ret d => rw [hd] at h; exact h.elim
      | brk Γ' => rw [hd] at h; exact h.elim
      | cont Γ' => rw [hd] at h; exact h.elim
      | stuck => rw [hd] at h; exact h.elim
      | exc cc fs Γ' => rw [hd] at h; exact fun σ' F' H' cls d e' env' ex => h F' H' cls d env'.pf env'.fh e' (ExcOk.cg (G := ⟨K, mg, none, some x⟩) (G' := ⟨K, mg, none, none⟩) rfl rfl ex)
    · rw [if_neg hl] at h
      exact h.elim
end
end DP

/-! DpNever: code that is never reached needs no rule. -/
namespace DP
open PySem PySem.Spec
    PyProof.Rows L2
def eNever : DP.E := fun _ => .stuck
def aNever : As := fun _ => .stuck
section
variable {G : Gx} {W : WX} {X : Cx} {e : Expr} {es : List Expr} {st : Stmt} {body : List Stmt}
theorem ds_never : PS X st (rs G W sNever) := ⟨fun _ _ _ _ _ _ h => by
  obtain ⟨P, F, Γ, env, h⟩ := h
  exact h.elim⟩
theorem dss_never : PSs X body (rs G W sNever) := ⟨fun _ _ _ _ _ _ h => by
  obtain ⟨P, F, Γ, env, h⟩ := h
  exact h.elim⟩
theorem de_never : PE X e (rd G W eNever) := ⟨fun _ _ _ _ _ _ h => by
  obtain ⟨P, F, Γ, env, h⟩ := h
  exact h.elim⟩
theorem da_never : PA X es (rdA G W aNever) := ⟨fun _ _ _ _ _ _ _ h => by
  obtain ⟨P, F, Γ, env, h⟩ := h
  exact h.elim⟩
end
end DP

/-! DpOr: operators of several own classes. -/
namespace DP
open PySem PySem.Spec
    PyProof.Rows L2
section
variable {G : Gx} {X : Cx}
theorem OpS.or {opf : Value → Value → Sem Value} {f g : D → D → Option Opd} (h1 : OpS G X opf f) (h2 : OpS G X opf g) : OpS G X opf (or2 f g) := by
  obtain ⟨r1, a1, b1⟩ := h1
  obtain ⟨r2, a2, b2⟩ := h2
  refine ⟨_, a1.or a2, fun {P F H σ Γ dx dy x y o Q} env hx hy e q => ?_⟩
  rcases or2_some e with e | e
  · exact .inl (b1 env hx hy e q)
  · exact .inr (b2 env hx hy e q)
/-- what holds of any operand holds of shared ones -/
theorem OpD.strong {opf : Value → Value → Sem Value} {f : D → D → Option Opd} (h : OpD G X opf f) : OpS G X opf f := by
  obtain ⟨r, a, b⟩ := h
  exact ⟨r, a, fun {P F H σ Γ dx dy x y o Q} env hx hy e q => b env (.inl hx) (.inl hy) e q⟩
end
end DP

/-! DpRz: own exceptions with a field: their __init__, raise C(e), raise C(e) from None in a suite. -/
namespace DP
open PySem PySem.Spec
    PyProof.Rows L2

/-- self.f = v on a new exception -/
def spX (K : PySem.W.Frag) (f : Str) : Sp := fun vs H Q _ => ∃ (a C : Addr) (v : V), vs = [.ref a, v] ∧ H a = some (exo a C none) ∧ OexC K C ∧ PySem.W.findIn K (.ref C) f = some none ∧ ∀ dx, H dx = none → dx ≠ a → Q .non (upd (upd H dx (exd dx [(f, v)])) a (exo a C (some dx)))
section
variable {P : Program} {w : World} {K : PySem.W.Frag} {mg : Str → Option Value} {base : Heap} {f : Str}
theorem spX_len (vs : List V) (H : Hp) (Q : VK) (E : XK) {g : Str} (h : spX K f vs H Q E) : vs.length = (["self", g] : List Str).length := by
  obtain ⟨a, C, v, rfl, _⟩ := h
  rfl
theorem spX_run {g : Str} {vs : List V} {H : Hp} {Q : VK} {E : XK} (h : spX K f vs H Q E) : tOst K f (tVar 0) (tVar 1) { nx := fun _ H' => Q .non H', rt := Q } (L2.start ["self", g] vs) H := by
  obtain ⟨a, C, v, rfl, h1, h2, h3, h4⟩ := h
  exact ⟨v, rfl, .ref a, rfl, a, C, rfl, h2, h3, .inl ⟨h1, h4⟩⟩
theorem okX {cx : CXT} {qual : Str} {st : Stmt} {fa : Addr} {fd : FuncData} {g : Str} (Fu : Fun K "__init__" qual st fa fd) (S : FnScope ["self", g] ["self", g] (defScope st))
    (hb : ∀ (cdv : Value) (A : Around) (outer : List PySem.Env) (s : Shared) (H : Hp) (E : XK), PSs (cxOf cx P w K mg base ["self", g] qual (defScope st) fa cdv A outer s H E) (defBody st) (tOst K f (tVar 0) (tVar 1))) :
    FnOk P w K mg base cx 1 fa fd ["self", g] (spX K f) :=
  okAny Fu S (fun vs H Q E h => spX_len (g := g) vs H Q E h) fun cdv A outer s H vs Q E _ h => ⟨_, hb cdv A outer s H E, spX_run h⟩
theorem okXH {cx : CXT} {qual : Str} {st : Stmt} {fa : Addr} {fd : FuncData} {g : Str} (Fu : Fun K "__init__" qual st fa fd) (S : FnScope ["self", g] ["self", g] (defScope st))
    (hb : ∀ (cdv : Value) (A : Around) (outer : List PySem.Env) (s : Shared) (H : Hp) (E : XK) (p : Addr × Obj), PSs (L2H.cxH cx P w K mg base ["self", g] qual (defScope st) fa cdv A outer s H E p) (defBody st) (tOst K f (tVar 0) (tVar 1))) :
    L2H.FnH P w K mg base cx 1 fa fd ["self", g] (spX K f) := by
  obtain ⟨oc, od, kV, doc, pm, an, cdv, ct, osl, rfl, lk, hcd⟩ := Fu.ex
  exact L2H.fn_ofH lk hcd S (fun vs H Q E h => spX_len (g := g) vs H Q E h) fun A outer s H vs Q E p _ _ h => ⟨_, hb cdv A outer s H E p, spX_run h⟩
end
/-- what the class of such exceptions is -/
structure XCls (K : PySem.W.Frag) (mg : Str → Option Value) (c f : Str) (C fI : Addr) : Prop where
  g : mg c = some (.ref C)
  o : OexC K C
  no : PySem.W.findIn K (.ref C) f = some none
  i : PySem.W.findIn K (.ref C) "__init__" = some (some (.ref fI))
  t : PySem.W.typeIn K (.ref fI) = some (.type "function")
section
variable {G : Gx} {W : WX} {X : Cx} {e : Expr} {es : List Expr} {p pos pos2 cpos : Pos} {da : DP.E}
theorem rz_heap {H1 : Hp} {a d : Addr} {C : Addr} {fs : List (Str × V)} {ha : H1 a = none} {hd : H1 d = none} (hne : d ≠ a) : upd (del (upd (upd (upd H1 a (exo a C none)) d (exd d fs)) a (exo a C (some d))) a) d (.xd fs) = upd H1 d (.xd fs) := by
  funext b
  by_cases hb : b = d
  · subst hb; rw [upd_same, upd_same]
  · rw [upd_ne hb, upd_ne hb]
    by_cases hb2 : b = a
    · subst hb2; rw [del_same, ha]
    · rw [del_ne hb2, upd_ne hb2, upd_ne hb, upd_ne hb2]
theorem rz_tr {c f : Str} {C : Addr} (hg : G.mg c = some (.ref C)) (hK : OexC X.K C) (hno : PySem.W.findIn X.K (.ref C) f = some none) (D : Ends) (σ : L2.St) (H : Hp) (hq : rs G W (sRaiseX c f da) D σ H) :
    tMkO C (spX X.K f) [] (rdA G W (aCons da aNil)) σ H (fun cls d H' => W cls d σ H') := by
  obtain ⟨P, F, Γ, env, h⟩ := hq
  have h : SPost G W P F D (sRaiseX c f da Γ) := h
  show rdA G W (aCons da aNil) σ H _
  refine ⟨P, F, Γ, env, ?_⟩
  unfold sRaiseX at h
  show (match aCons da aNil Γ with | .ok os Γ' => _ | .exc c fs Γ' => _ | .stuck => _)
  unfold aCons aNil
  cases hd : da Γ with
  | stuck => rw [hd] at h; exact h.elim
  | exc cc fs Γ1 => rw [hd] at h; exact fun F' H' cls d e' env' ex => h σ F' H' cls d e' env' ex
  | ok o Γ1 =>
    rw [hd] at h
    intro vs F1 H1 e1 env1 ho
    obtain ⟨v, r, rfl, h1, h2⟩ := ho
    obtain rfl : r = [] := h2
    have h : SPost G W P F D (match o.str with | some d => .exc c [.ins "" [(f, d)]] Γ1 | none => .stuck) := h
    cases hs : o.str with
    | none => rw [hs] at h; exact h.elim
    | some d =>
      rw [hs] at h
      refine ⟨by show 1 ≤ 1000; omega, fun a ha => ⟨a, C, v, rfl, upd_same, hK, hno, fun dx hdx hne => ⟨rfl, dx, [(f, v)], upd_same, ?_, ?_, ?_⟩⟩⟩
      · rw [upd_ne hne, upd_same]
      · rw [upd_ne hne] at hdx; exact hdx
      · rw [upd_ne hne] at hdx
        rw [rz_heap (ha := ha) (hd := hdx) hne]
        obtain ⟨env2, e2⟩ := env1.newSh (u := HO.xd [(f, v)]) hdx
        have hr : Rep G F1 d v := by
          rcases h1 with ⟨d', k1, k2⟩ | ⟨i, rfl, k⟩
          · rw [hs] at k1; cases k1; exact k2
          · cases hs
        exact h σ _ _ (.ref C) (some dx) (e1.trans e2) env2 ⟨hg, .inr ⟨_, dx, _, rfl, rfl, upd_same, v, [], rfl, hr.mono e2.sub, rfl⟩⟩
/-- raise C(e) -/
theorem ds_raiseX {cx : CXT} {c f g : Str} {C fI : Addr} {fd : FuncData} (T : XCls X.K X.mg c f C fI) (ok : Ok G X) (hc : X.calm = true) (tk : Takes X W) (Fo : FnOk X.prog X.w X.K X.mg X.base cx 1 fI fd ["self", g] (spX X.K f)) (hr : Room 2 X.A) (hb : Binds X.K fd ["self", g] []) (hx : Passes cx X (fun _ _ _ => False)) (hg : Gl X c) (ha : PE X e (rd G W da))
    (hst : starEach [e] X.env = (false, eval e X.env) :: starEach [] X.env := by rfl) (hpl : (backTo pos (starEach [] X.env)).any (·.1) = false := by rfl) (hdb : (c == ("__debug__" : Str)) = false := by decide) :
    PS X (.Raise (some (.Call (.Name c p) [e] [] pos)) none pos2) (rs G W (sRaiseX c f da)) :=
  PS_imp (ps_raise hc tk (pmk_oex (sp := spX X.K f) T.o T.i T.t Fo hr hb .nil hx hg T.g (da_cons ha da_nil hst) hdb hst hpl)) fun D σ H hq => rz_tr (by rw [ok.mg]; exact T.g) T.o T.no D σ H hq
/-- raise C(e) from None, in a suite -/
theorem ds_raiseXN {cx : CXT} {c f g : Str} {C fI : Addr} {fd : FuncData} {j : Nat} (T : XCls X.K X.mg c f C fI) (ok : Ok G X) (hot : L2H.HotC X) (tk : Takes X W) (Fo : L2H.FnH X.prog X.w X.K X.mg X.base cx 1 fI fd ["self", g] (spX X.K f)) (hr : L2H.RoomH 2 X.A) (hb : Binds X.K fd ["self", g] []) (hx : Passes cx X (fun _ _ _ => False)) (hg : Gl X c) (ha : PE X e (rd G W da))
    (hst : starEach [e] X.env = (false, eval e X.env) :: starEach [] X.env := by rfl) (hpl : (backTo pos (starEach [] X.env)).any (·.1) = false := by rfl) (hdb : (c == ("__debug__" : Str)) = false := by decide) :
    PS X (.Raise (some (.Call (.Name c p) [e] [] pos)) (some (.Constant .none j cpos)) pos2) (rs G W (sRaiseX c f da)) :=
  PS_imp (L2H.ps_raiseHN hot tk (L2H.pmk5_oexH (sp := spX X.K f) T.o T.i T.t Fo hr hot hb hx hg T.g (da_cons ha da_nil hst) hdb hst hpl)) fun D σ H hq => rz_tr (by rw [ok.mg]; exact T.g) T.o T.no D σ H hq
/-- raise C('text'), where it is to be known that nothing is handled -/
theorem ds_raiseN {cn : Str} {t : L2.St → Hp → XK → Prop} (hc : X.calm = true) (tk : L2N.Takes X W) (he : L2N.PMk X e t) (ht : ∀ σ H (Q : XK), (∀ cls, G.mg cn = some cls → Q cls none H) → t σ H Q) : PS X (.Raise (some e) none pos) (rs G W (sRaise cn)) := by
  refine PS_imp (L2N.ps_raise hc tk he) fun D σ H hq => ?_
  obtain ⟨P, F, Γ, env, h⟩ := hq
  exact ht σ H _ fun cls hcls => h σ F H cls none (Ext.refl _ _) env ⟨hcls, .inl ⟨rfl, rfl⟩⟩
end
end DP

/-! DpCls: classmethods. -/
namespace DP
open PySem PySem.Spec
    PyProof.Rows L2

/-- a classmethod called with its class and data -/
def spC (G : Gx) (c : Str) (fn : Fn) : Sp := fun vs H Q E => ∃ (C : Addr) (us : List V), vs = .ref C :: us ∧ G.mg c = some (.ref C) ∧ spD G fn us H Q E
/-- a def whose slot 0 is the class -/
def runCls (np n : Nat) (b : S) : Fn := fun ds => if ds.length + 1 = np then (match b (.no :: startEnv (n - 1) ds) with
  | .next _ => .ok .non
  | .ret d => .ok d
  | .exc c fs _ => .exc c fs
  | _ => .stuck) else .stuck
section
variable {P : Program} {w : World} {K : PySem.W.Frag}
    {mg : Str → Option Value} {base : Heap}
theorem env_cls {G : Gx} {F H : Hp} {ds : List D} {us : List V} {N : List Str} {n : Nat} {C : Addr} (hme : G.me = some C) (hF : Same F H) (r : Reps G F ds us) (hN : N.length = n + 1) (hl : ds.length ≤ n) :
    EnvOk G H F H (L2.start N (.ref C :: us)) (.no :: startEnv n ds) := by
  have hst : L2.start N (.ref C :: us) = some (.ref C) :: (us.map some ++ List.replicate (n - us.length) none) := by
    unfold L2.start
    rw [hN]
    show some (V.ref C) :: (us.map some ++ List.replicate (n + 1 - (us.length + 1)) none) = _
    rw [Nat.add_sub_add_right]
  rw [hst]
  have sub : ∀ (i : Nat) (s : Slot), (startEnv n ds)[i]? = some s → (s = .no ∨ ∃ d v, s = .sh d ∧ (us.map some ++ List.replicate (n - us.length) none)[i]? = some (some v) ∧ Rep G F d v) := fun i s hs => by
    unfold startEnv at hs
    by_cases hi : i < ds.length
    · rw [List.getElem?_append_left (by rw [List.length_map]; exact hi), List.getElem?_map] at hs
      cases e : ds[i]? with
      | none => rw [e] at hs; cases hs
      | some d =>
        rw [e] at hs
        cases hs
        obtain ⟨v, hv, hr⟩ := r.get e
        refine .inr ⟨d, v, rfl, ?_, hr⟩
        rw [List.getElem?_append_left (by rw [List.length_map, r.length]; exact hi), List.getElem?_map, hv]
        rfl
    · rw [List.getElem?_append_right (by rw [List.length_map]; omega)] at hs
      have := List.mem_of_getElem? hs
      rw [List.mem_replicate] at this
      exact .inl this.2
  exact {
    pf := Same.refl _
    fh := hF
    len := by
      unfold startEnv
      simp only [List.length_cons, List.length_append, List.length_map, List.length_replicate]
      rw [r.length]
    slot := fun i s hs => by
      cases i with
      | zero =>
        cases hs
        trivial
      | succ i =>
        rcases sub i s (by simpa using hs) with rfl | ⟨d, v, rfl, h1, h2⟩
        · trivial
        · exact ⟨v, by simpa using h1, h2⟩
    dis := fun i j ad d e h1 h2 _ _ => by
      cases i with
      | zero => cases h1
      | succ i => rcases sub i _ (by simpa using h1) with k | ⟨_, _, k, _⟩ <;> cases k
    me0 := fun z hz => by
      rw [hme] at hz
      cases hz
      rfl }
theorem okC {cx : CXT} {c x qual : Str} {st : Stmt} {f : Addr} {fd : FuncData} {N ps : List Str} {k np n : Nat} {den : DP.S} (Fu : Fun K x qual st f fd) (S : FnScope N ps (defScope st)) (hN : N.length = n + 1) (hp : ps.length = np) (hnp : np ≤ n + 1)
    (hb : ∀ (C : Addr) (cdv : Value) (A : Around) (outer : List PySem.Env) (s : Shared) (H : Hp) (E : XK), mg c = some (.ref C) → Room k (A.deeper (envOfC qual (defScope st) s.heap.objs.size f cdv)) →
      PSs (cxOf cx P w K mg base N qual (defScope st) f cdv A outer s H E) (defBody st) (rs ⟨K, mg, none, some C⟩ (fun cls d _ H => E cls d H) den)) :
    FnOk P w K mg base cx (k + 1) f fd ps (spC ⟨K, mg, none, none⟩ c (runCls np (n + 1) den)) := by
  refine okAny Fu S (fun vs H Q E h => ?_) (fun cdv A outer s H vs Q E hr h => ?_)
  · obtain ⟨C, us, rfl, _, F, ds, _, r, h⟩ := h
    unfold runCls at h
    by_cases hl : ds.length + 1 = np
    · show us.length + 1 = ps.length
      rw [r.length, hl, hp]
    · rw [if_neg hl] at h
      exact h.elim
  · obtain ⟨C, us, rfl, hC, F, ds, h1, r, h⟩ := h
    refine ⟨_, hb C cdv A outer s H E hC hr, ?_⟩
    unfold runCls at h
    by_cases hl : ds.length + 1 = np
    · rw [if_pos hl] at h
      refine ⟨H, F, .no :: startEnv n ds, env_cls (G := ⟨K, mg, none, some C⟩) rfl h1 (Reps.cg (G := ⟨K, mg, none, none⟩) (G' := ⟨K, mg, none, some C⟩) rfl rfl r) hN (by omega), ?_⟩
      have hsub : n + 1 - 1 = n := rfl
      rw [hsub] at h
      cases hd : den (.no :: startEnv n ds) with
      | next Γ' => rw [hd] at h; exact fun σ' F' H' e' env' => h .non F' H' env'.pf env'.fh e' rfl
      | ret d => rw [hd] at h; exact fun v F' H' e' s1 s2 r' => h v F' H' s1 s2 e' (Rep.cg (G := ⟨K, mg, none, some C⟩) (G' := ⟨K, mg, none, none⟩) rfl rfl r')
      | brk Γ' => rw [hd] at h; exact h.elim
      | cont Γ' => rw [hd] at h; exact h.elim
      | stuck => rw [hd] at h; exact h.elim
      | exc cc fs Γ' => rw [hd] at h; exact fun σ' F' H' cls d e' env' ex => h F' H' cls d env'.pf env'.fh e' (ExcOk.cg (G := ⟨K, mg, none, some C⟩) (G' := ⟨K, mg, none, none⟩) rfl rfl ex)
    · rw [if_neg hl] at h
      exact h.elim
end
/-- a classmethod that other defs call -/
structure CalC (P : Program) (w : World) (K : PySem.W.Frag) (mg : Str → Option Value) (base : Heap) (cx : CXT) (k : Nat) (c m : Str) (ps : List Str) (fn : Fn) (C f : Addr) (fd : FuncData) : Prop where
  ok : FnOk P w K mg base cx k f fd ps (spC ⟨K, mg, none, none⟩ c fn)
  g : mg c = some (.ref C)
  m : ∃ mc q, ClX.CRead K C mc ∧ ClX.CMet K C mc m q f
  b : Binds K fd ps []
section
variable {G : Gx} {W : WX} {X : Cx} {e : Expr} {es : List Expr} {p pos apos : Pos} {t : As}
theorem de_cmeth {cx : CXT} {c m : Str} {fn : Fn} {k : Nat} {f C : Addr} {fd : FuncData} {ps : List Str} {pl : Sem Bool} (M : CalC X.prog X.w X.K X.mg X.base cx k c m ps fn C f fd) (ok : Ok G X) (hr : Room k X.A) (hg : Gl X c) (tk : Lets cx X W) (ha : PA X (e :: es) (rdA G W t)) (hdb : (c == ("__debug__" : Str)) = false := by decide)
    (hst : starEach (e :: es) X.env = (false,
        eval e X.env) :: starEach es X.env := by rfl) (hpl : (backTo pos (starEach es X.env)).any (·.1) = false := by rfl)
    (ht : eval (.Call (.Attribute (.Name c p) m apos) (e :: es) [] pos) X.env = (do
      let ov ← eval (.Name c p) X.env
      standAt apos.atName
      let (f,
          first) ← holding [ov] (getMethod ov m pl)
      callWith pos f first (backTo pos (starEach (e :: es)
          X.env)) (backToKw pos (keywordEach [] X.env))) := by rfl) :
    PE X (.Call (.Attribute (.Name c p) m apos) (e :: es) [] pos) (rd G W (eGive fn t)) := by
  obtain ⟨mc, q, r, cm⟩ := M.m
  refine ⟨fun pins s σ H Q I h =>
      ?_⟩
  have h2 : rdA G W t σ H (fun vs H1 => spD G fn vs H1 Q (fun cls d H' => W cls d σ H')) := by
    obtain ⟨P, F0, Γ, env, h⟩ := h
    refine rdA_bind env h fun os Γ1 vs F1 H1 e1 env1 ho h1 => ?_
    exact give_tr env1 ho h1
  refine PySem.W.methodCall_KW (pl := pl) (ld_glob I hg M.g ?_ hdb) ht
  refine ClX.getmethcm_ok I r cm fun s2 I2 => ?_
  refine ClX.callwith_cm I2 (ClX.base_none I (Nat.le_refl _)) cm.fi (thn (ha.run pos _ s2 σ H _ I2 h2) fun us s3 ⟨vs, H2, I3, rv, q2⟩ => ⟨⟨ClX.pin_at I3, I3.kIn⟩, ?_⟩) hst hpl
  have q3 : spC ⟨X.K, X.mg, none, none⟩ c fn (.ref C :: vs) H2 Q (fun cls d H' => W cls d σ H') := ⟨C, vs, rfl, M.g, spD_cg ok.K.symm ok.mg.symm _ _ _ _ q2⟩
  have z : wpAny (model X.prog X.w) X.A (call (.ref s.heap.objs.size) us) (EP X ((s.heap.objs.size, PySem.W.methodObj (.ref f) (.ref C)) :: pins) σ Q) X.xe s3 := by
    have hl : (Value.ref C :: us).length = ps.length := by rw [← M.ok.len _ _ _ _ q3]; exact (Paired.length (.cons (show RelV (V.ref C) (Value.ref C) from rfl) rv)).symm
    have b := M.b s3 (Value.ref C :: us) I3.kIn (by rw [List.append_nil]; exact hl)
    rw [List.append_nil] at b
    refine wpAny_call (PySem.W.method_call (ClX.pin_at I3) (codeAny_mono (M.ok.run X.A X.stack s3 H2 ⟨Value.ref C :: us, []⟩ (Value.ref C :: us) (V.ref C :: vs) Q _ hr I3.env0 b (.cons rfl rv) q3) fun rr s' hq => ?_))
    cases rr with
    | error er => exact tk σ _ H2 s3 er s' I3 hq
    | ok fl =>
      cases fl with
      | ret u => exact I3.after hq
      | next => exact False.elim hq
      | brk => exact False.elim hq
      | cont => exact False.elim hq
  exact thn z fun _ _ y => ClX.unpinE y
end
end DP

/-! DpStr: str(x) of own instances, f-strings. -/
namespace DP
open PySem PySem.Spec
    PyProof.Rows L2

/-- a built-in called with shared data -/
def CBS (G : Gx) (X : Cx) (fv : Value) (f : List D → Option Opd) : Prop := ∃ r, CallR X fv r ∧
  ∀ {P F H : Hp} {σ : L2.St} {Γ : Env} {ds : List D} {vs : List V} {o : Opd} {Q : VK}, EnvOk G P F H σ Γ → Reps G F ds vs → f ds = some o → Go G P F σ Γ o Q → r vs H Q
def eCBS (f : List D → Option Opd) (t : As) : E := fun Γ =>
  (t Γ).bind fun os Γ1 => match strsD os with
    | some ds => opt (f ds) Γ1
    | none => .stuck
/-- str(o) by the class's __str__ -/
def strOwnF (c : Str) (fn : Fn) : List D → Option Opd
  | [.ins c1 f1] => if c1 = c then (match fn [.ins c1 f1] with
    | .ok (.str s) => ov (.str s)
    | _ => none) else none
  | _ => none
section
variable {G : Gx} {W : WX} {X : Cx} {e : Expr} {es : List Expr} {p pos : Pos} {da : DP.E}
theorem CBD.strong {fv : Value} {f : List D → Option Opd} (h : CBD G X fv f) : CBS G X fv f := by
  obtain ⟨r, a, b⟩ := h
  refine ⟨r, a, fun {P F H σ Γ ds vs o Q} env hv e q => b env ?_ e q⟩
  clear e q
  induction ds generalizing vs with
  | nil => exact hv
  | cons d ds ih =>
    obtain ⟨v, r, rfl, h1, h2⟩ := hv
    exact ⟨v, r, rfl, .inl h1, ih h2⟩
theorem CBS.or {fv : Value} {f g : List D → Option Opd} (h1 : CBS G X fv f) (h2 : CBS G X fv g) : CBS G X fv (or1 f g) := by
  obtain ⟨r1, a1, b1⟩ := h1
  obtain ⟨r2, a2, b2⟩ := h2
  refine ⟨fun xs H Q => r1 xs H Q ∨ r2 xs H Q, fun pn sh τ Hh xs us Qk Iv r hq => ?_, fun {P F H σ Γ ds vs o Q} env hv e q => ?_⟩
  · rcases hq with hq | hq
    · exact a1 pn sh τ Hh xs us Qk Iv r hq
    · exact a2 pn sh τ Hh xs us Qk Iv r hq
  · rcases or1_some e with e | e
    · exact .inl (b1 env hv e q)
    · exact .inr (b2 env hv e q)
theorem cbs_tr {f : List D → Option Opd} {r : List V → Hp → VK → Prop} {t : As} (h2 : ∀ {P F H : Hp} {σ : L2.St} {Γ : Env} {ds : List D} {vs : List V} {o : Opd} {Q : VK}, EnvOk G P F H σ Γ → Reps G F ds vs → f ds = some o → Go G P F σ Γ o Q → r vs H Q)
    (σ : L2.St) (H : Hp) (Q : VK) (hq : rd G W (eCBS f t) σ H Q) : rdA G W t σ H (fun vs H1 => r vs H1 Q) := by
  obtain ⟨P, F, Γ, env, h⟩ := hq
  refine rdA_bind env h fun os Γ1 vs F1 H1 e1 env1 ho h1 => ?_
  cases hg : strsD os with
  | none => rw [hg] at h1; exact h1.elim
  | some ds =>
    rw [hg] at h1
    dsimp only at h1
    cases hf : f ds with
    | none => rw [hf] at h1; exact h1.elim
    | some z => rw [hf] at h1; exact h2 env1 (ho.strong hg) hf h1
theorem de_cbS {x : Str} {id : String} {f : List D → Option Opd} {t : As} (hc : CBS G X (.type id) f) (hg : Gl X x) (hm : X.mg x = none) (hv : bootBuiltins x = some (.type id)) (ha : PA X (e :: es) (rdA G W t)) (hn : x ≠ "__name__" := by decide) (hdb : (x == ("__debug__" : Str)) = false := by decide)
    (he : starEach (e :: es) X.env = (false, eval e X.env) :: starEach es X.env := by rfl) (hpl : (backTo pos (starEach es X.env)).any (·.1) = false := by rfl) : PE X (.Call (.Name x p) (e :: es) [] pos) (rd G W (eCBS f t)) := by
  obtain ⟨r, h1, h2⟩ := hc
  exact PE_imp (pe_callTy h1 hg hm hv ha hn hdb he hpl) (cbs_tr h2)
theorem call_strOwn {c : Str} {fn : Fn} {k : Nat} {f C : Addr} {fd : FuncData} {ps : List Str} (M : CalO X.prog X.w X.K X.mg X.base k c "__str__" ps fn C f fd) (hr : Room (k + 2) X.A) :
    CallR X (.type "str") (fun xs H Q => ∃ a dx fs, xs = [.ref a] ∧ H a = some (.ins C dx fs) ∧ spD ⟨X.K, X.mg, none, none⟩ fn [.ref a] H (fun v H' => ∃ s, v = .str s ∧ Q (.str s) H') (fun _ _ _ => False)) := by
  intro pn sh τ Hh xs us Qk Iv r hq
  obtain ⟨a, dx, fs, rfl, h1, h3⟩ := hq
  cases r with
  | cons rx rr =>
    cases rr
    rename_i v
    obtain rfl : v = Value.ref a :=
        rx
    obtain ⟨ox, od, Ix⟩ := inst_of Iv h1
    refine PySem.W.kso_call (by show X.A.units + 1 + 1 < cLine; have := hr.un; omega) Iv.kIn Ix M.at_ M.fn ?_
    have hl : [Value.ref a].length = ps.length := by rw [← M.ok.len _ _ _ _ h3]; rfl
    have b := M.b sh [.ref a] Iv.kIn (by rw [List.append_nil]; exact hl)
    rw [List.append_nil] at b
    refine wpAny_call (codeAny_mono (M.ok.run X.A.in1.in1 X.stack sh Hh ⟨[.ref a], []⟩ [.ref a] [.ref a] _ _ (Room.in1 (Room.in1 hr)) Iv.env0.in1.in1 b (.cons rfl .nil) h3) fun rr s' hq => ?_)
    cases rr with
    | error er => exact (cx_any hq).elim
    | ok fl =>
      cases fl with
      | ret u =>
        obtain ⟨z, H', I', rz, s, rfl, qz⟩ := Iv.after hq
        obtain ⟨t, rfl⟩ := rz
        exact ⟨.str s, H', I', ⟨t, rfl⟩, qz⟩
      | next => exact False.elim hq
      | brk => exact False.elim hq
      | cont => exact False.elim hq
theorem cbs_strOwn {c : Str} {fn : Fn} {k : Nat} {f C : Addr} {fd : FuncData} {ps : List Str} (M : CalO X.prog X.w X.K X.mg X.base k c "__str__" ps fn C f fd) (ok : Ok G X) (hr : Room (k + 2) X.A) : CBS G X (.type "str") (strOwnF c fn) := by
  refine ⟨_, call_strOwn M hr, fun {P F H σ Γ ds vs o Q} env hv e q => ?_⟩
  unfold strOwnF at e
  split at e
  · rename_i c1 f1
    split at e
    · rename_i hc
      subst hc
      obtain ⟨v, r, rfl, h1, h2⟩ := hv
      obtain rfl : r = [] := h2
      have h1' := h1
      obtain ⟨a, C', dx, xs, rfl, k1, k2, k3⟩ := h1
      have hg := M.g
      rw [← ok.mg] at hg
      rw [hg] at k2
      cases k2
      refine ⟨a, dx, xs, rfl, env.fh _ _ k1, spD_cg (G := G) ok.K.symm ok.mg.symm _ _ _ _ ⟨F, [.ins c1 f1], env.fh, ⟨_, _, rfl, h1', rfl⟩, ?_⟩⟩
      cases hf : fn [.ins c1 f1] with
      | ok d =>
        rw [hf] at e
        cases d with
        | str s =>
          cases e
          intro v F' H' sH sF x r
          obtain ⟨env2, x2⟩ := env.after sH sF x
          exact ⟨s, r, q (.str s) F' H' x2 env2 rfl⟩
        | _ => cases e
      | exc _ _ => rw [hf] at e; cases e
      | stuck => rw [hf] at e; cases e
    · cases e
  · cases e

/-! ### f-strings -/
/-- {x}: a text or an int -/
def eFmt (a : E) : E := fun Γ => (a Γ).bind fun x Γ1 => match x with
  | .val (.str s) => if s.length ≤ 1000000 then .ok (.val (.str s)) Γ1 else .stuck
  | .val (.int i) => if i.natAbs.log2 < 1920 then .ok (.val (.str (toString i))) Γ1 else .stuck
  | _ => .stuck
def eJs : List E → Str → E
  | [], acc => fun Γ => .ok (.val (.str acc)) Γ
  | a :: r, acc => fun Γ => (a Γ).bind fun x Γ1 => match x with
    | .val (.str y) => if (acc ++ y).length ≤ 1000000 then eJs r (acc ++ y) Γ1 else .stuck
    | _ => .stuck
theorem de_fmt (he : PE X e (rd G W da)) : PE X (.FormattedValue e (-1) none pos) (rd G W (eFmt da)) := by
  refine PE_imp (pe_fmt he) fun σ H Q hq => ?_
  obtain ⟨P, F, Γ, env, h⟩ := hq
  refine rd_bind env h fun o1 Γ1 v1 F1 H1 e1 env1 ho1 h1 => ?_
  cases o1 with
  | val d =>
    cases d with
    | str s =>
      dsimp only at h1
      split at h1
      · rename_i hl
        exact .inl ⟨s, ho1, line_le hl, h1 _ F1 H1 (Ext.refl _ _) env1 rfl⟩
      · exact h1.elim
    | int i =>
      dsimp only at h1
      split at h1
      · rename_i hl
        exact .inr ⟨i, ho1, hl, h1 _ F1 H1 (Ext.refl _ _) env1 rfl⟩
      · exact h1.elim
    | _ => exact h1.elim
  | _ => exact h1.elim
inductive DJ (G : Gx) (W : WX) (X : Cx) : List Expr → List DP.E → Prop where
  | nil : DJ G W X [] []
  | cons {e : Expr} {a : DP.E} {es : List Expr} {as : List DP.E} (h : PE X e (rd G W a)) (r : DJ G W X es as) : DJ G W X (e :: es) (a :: as)
theorem DJ.pj {es : List Expr} {as : List DP.E} (h : DJ G W X es as) : PJ X es (as.map (rd G W)) := by
  induction h with
  | nil => exact .nil
  | cons h r ih => exact .cons h ih
theorem dj_run : ∀ (as : List DP.E) (acc : Str) (σ : L2.St) (H : Hp) (Q : VK), rd G W (eJs as acc) σ H Q → tJs (as.map (rd G W)) acc σ H fun out H1 => Q (.str out) H1
  | [], acc, σ, H, Q, hq => by
    obtain ⟨P, F, Γ, env, h⟩ := hq
    exact h _ F H (Ext.refl _ _) env rfl
  | a :: r, acc, σ, H, Q, hq => by
    obtain ⟨P, F, Γ, env, h⟩ := hq
    show rd G W a σ H _
    refine rd_bind env h fun o1 Γ1 v1 F1 H1 e1 env1 ho1 h1 => ?_
    cases o1 with
    | val d =>
      cases d with
      | str s =>
        dsimp only at h1
        split at h1
        · rename_i hl
          exact ⟨s, ho1, line_le hl, dj_run r _ σ H1 Q ⟨P, F1, Γ1, env1, h1⟩⟩
        · exact h1.elim
      | _ => exact h1.elim
    | _ => exact h1.elim
theorem de_joined {v1 v2 : Expr} {rest : List Expr} {as : List DP.E} (h : DJ G W X (v1 :: v2 :: rest) as) : PE X (.JoinedStr (v1 :: v2 :: rest) pos) (rd G W (eJs as Str.empty)) :=
  PE_imp (pe_joined h.pj) (dj_run as Str.empty)
end
end DP

/-! DpEqX: == of tuples of tuples that hold instances, where it is true. -/
namespace DP
open PySem PySem.Spec
    PyProof.Rows L2

def isT : Res → Bool
  | .ok (.bl true) => true
  | _ => false
theorem isT_is {r : Res} (h : isT r = true) : r = .ok (.bl true) := by
  unfold isT at h
  split at h
  · rfl
  · cases h
def leafT (c : Str) (fn : Fn) (x y : D) : Bool := (flat x && flat y && eqD x y) || (match x, y with
  | .ins c1 f1, .ins c2 f2 => decide (c1 = c) && decide (c2 = c) && isT (fn [.ins c1 f1, .ins c2 f2])
  | _, _ => false)
def allT (p : D → D → Bool) : List D → List D → Bool
  | [], [] => true
  | x :: xs, y :: ys => p x y && allT p xs ys
  | _, _ => false
def tupT (p : D → D → Bool) : D → D → Bool
  | .tup xs, .tup ys => allT p xs ys
  | _, _ => false
def eqXF (c : Str) (fn : Fn) : D → D → Option Opd := fun x y => if tupT (tupT (leafT c fn)) x y = true then ov (.bl true) else none
/-- what is known of two instances whose == is True -/
def EqR (G : Gx) (c : Str) (fn : Fn) (a b : Addr) (H : Hp) : Prop := ∃ (F : Hp) (f1 f2 : List (Str × D)), Same F H ∧ Rep G F (.ins c f1) (.ref a) ∧ Rep G F (.ins c f2) (.ref b) ∧ fn [.ins c f1, .ins c f2] = .ok (.bl true)
section
variable {G : Gx} {W : WX} {X : Cx}
theorem eqR_mon {c : Str} {fn : Fn} (a b : Addr) (H H' : Hp) (e : L2.Ext H H') (h : EqR G c fn a b H) : EqR G c fn a b H' := by
  obtain ⟨F, f1, f2, h1, h2⟩ := h
  exact ⟨F, f1, f2, fun a o z => e a o (h1 a o z), h2⟩
theorem spEq_D {c : Str} {fn : Fn} (vs : List V) (H : Hp) (Q : VK) (E : XK) (h : spEq (EqR G c fn) vs H Q E) : spD G fn vs H Q E := by
  obtain ⟨a, b, rfl, ⟨F, f1, f2, h1, h2, h3, h4⟩, h5⟩ := h
  refine ⟨F, [.ins c f1, .ins c f2], h1, ⟨_, _, rfl, h2, _, _, rfl, h3, rfl⟩, ?_⟩
  rw [h4]
  intro v F' H' s1 _ _ r
  obtain rfl : v = .bl true := r
  exact h5 H' s1
theorem leaf_sem {c : Str} {fn : Fn} {C : Addr} (hg : G.mg c = some (.ref C)) {F H : Hp} (hF : Same F H) {dx dy : D} {x y : V} (h : leafT c fn dx dy = true) (hx : Rep G F dx x) (hy : Rep G F dy y) : DFlat x y H ∨ DIns C (EqR G c fn) x y H := by
  unfold leafT at h
  rw [Bool.or_eq_true] at h
  rcases h with h | h
  · rw [Bool.and_eq_true, Bool.and_eq_true] at h
    exact .inl ⟨flat_rep h.1.1 hx, flat_rep h.1.2 hy, by rw [eqV_rep h.1.1 h.1.2 hx hy]; exact h.2⟩
  · cases dx with
    | ins c1 f1 =>
      cases dy with
      | ins c2 f2 =>
        have h3 : (decide (c1 = c) && decide (c2 = c) && isT (fn [.ins c1 f1, .ins c2 f2])) = true := h
        clear h
        rw [Bool.and_eq_true, Bool.and_eq_true, decide_eq_true_eq, decide_eq_true_eq] at h3
        obtain ⟨⟨rfl, rfl⟩, h4⟩ := h3
        have hx' := hx
        have hy' := hy
        obtain ⟨a, C1, d1, xs, rfl, k1, k2, _⟩ := hx
        obtain ⟨b, C2, d2, ys, rfl, m1, m2, _⟩ := hy
        rw [hg] at k2 m2
        cases k2
        cases m2
        exact .inr ⟨a, b, d1, d2, xs, ys, rfl, rfl, hF _ _ k1, hF _ _ m1, F, f1, f2, hF, hx', hy', isT_is h4⟩
      | _ => cases h
    | _ => cases h
theorem all_sem {p : D → D → Bool} {Dq : Eqv} {F H : Hp} (hp : ∀ {dx dy : D} {x y : V}, p dx dy = true → Rep G F dx x → Rep G F dy y → Dq x y H) : ∀ {ds es : List D} {xs ys : List V}, allT p ds es = true → Reps G F ds xs → Reps G F es ys → Prs Dq xs ys H
  | [], [], _, _, _, hx, hy => by
    rw [show _ = [] from hx, show _ = [] from hy]
    exact Prs.nil
  | d :: ds, e :: es, _, _, h, hx, hy => by
    obtain ⟨x, xs, rfl, h1, h2⟩ := hx
    obtain ⟨y, ys, rfl, k1, k2⟩ := hy
    have h : (p d e && allT p ds es) = true := h
    rw [Bool.and_eq_true] at h
    exact Prs.cons (hp h.1 h1 k1) (all_sem hp h.2 h2 k2)
  | [], _ :: _, _, _, h, _, _ => by cases h
  | _ :: _, [], _, _, h, _, _ => by cases h
theorem tup_sem {p : D → D → Bool} {Dq : Eqv} {F H : Hp} (hF : Same F H) (hp : ∀ {dx dy : D} {x y : V}, p dx dy = true → Rep G F dx x → Rep G F dy y → Dq x y H) {dx dy : D} {x y : V} (h : tupT p dx dy = true) (hx : Rep G F dx x) (hy : Rep G F dy y) : DTup G.K Dq x y H := by
  cases dx with
  | tup ds =>
    cases dy with
    | tup es =>
      obtain ⟨a, xs, rfl, h1, h2⟩ := hx
      obtain ⟨b, ys, rfl, k1, k2⟩ := hy
      exact ⟨a, b, xs, ys, rfl, rfl, (h1.mono hF).sq, (k1.mono hF).sq, all_sem hp h h2 k2⟩
    | _ => cases h
  | _ => cases h
theorem ops_eqX {c : Str} {fn : Fn} {k : Nat} {f C : Addr} {fd : FuncData} {ps : List Str} (M : CalO X.prog X.w X.K X.mg X.base k c "__eq__" ps fn C f fd) (ok : Ok G X) (hr : Room (k + 2) X.A) : OpS G X (compareOp .Eq) (eqXF c fn) := by
  have hm := mon_ins (C := C) (R := EqR G c fn) (fun a b H H' e h => eqR_mon a b H H' e h)
  have e1 : EqG X k (fun x y H => DFlat x y H ∨ DIns C (EqR G c fn) x y H) := (eqG_flat.mono (Nat.zero_le k)).or (eqG_ins (E := fun _ _ _ => False) (M.ok.imp fun vs H Q E h => spD_cg ok.K.symm ok.mg.symm vs H Q E (spEq_D vs H Q E h)) M.at_ M.fn M.b (fun _ _ _ _ _ _ _ z => (cx_any z).elim))
  have m1 := mon_flat.or hm
  refine ⟨_, op_eqG (rcG_tup (mon_tup m1) (eqG_tup m1 e1)) hr, fun {P F H σ Γ dx dy x y o Q} env hx hy hf q => ?_⟩
  unfold eqXF at hf
  split at hf
  · rename_i h
    cases hf
    have hg := M.g
    rw [← ok.mg] at hg
    refine ⟨?_, fun H' e => q (.bl true) F H' (DP.Ext.refl _ _) (env.grow e) rfl⟩
    rw [← ok.K]
    exact tup_sem env.fh (fun h1 => tup_sem env.fh (fun h2 => leaf_sem hg env.fh h2) h1) h hx hy
  · cases hf
end
end DP

/-! DpEnumK: enumerate(xs, start=k) over lists. -/
namespace DP
open PySem PySem.Spec
    PyProof.Rows L2

/-- a class called with keywords: what is owed of the parts -/
theorem cw_type_kw {M : Model} {A : Around} {E : Value → Shared → Prop} {s : Shared} {ev : PySem.Env} {pos : Pos} {T : String} {e : Expr} {es : List Expr} {ks : List Keyword} {Q : Value → Shared → Prop}
    (h : wpAny M A (spliced (backTo pos (starEach (e :: es) ev))) (fun us t => wpAny M A (evalAll ((backToKw pos (keywordEach ks ev)).map (·.2)))
      (fun ws r => wpAny M A (call (.type T) us (((backToKw pos (keywordEach ks ev)).filterMap (·.1)).zip ws)) Q E r) E t) E s)
    (he : backTo pos (starEach (e :: es) ev) = (false, eval e ev) :: backTo pos (starEach es ev))
    (p1 : (backTo pos (starEach (e :: es) ev)).any (·.1) = false) (p2 : (backToKw pos (keywordEach ks ev)).all (·.1.isSome) = true) (p3 : (backToKw pos (keywordEach ks ev)).any (·.1.isNone) = false) :
    wpAny M A (callWith pos (.type T) [] (backTo pos (starEach (e :: es) ev)) (backToKw pos (keywordEach ks ev))) Q E s := by
  unfold callWith
  rw [he] at h p1 ⊢
  have own := evalArgs_kwB (f := .type T) (Q := fun a t => wpAny M A (call (.type T) ([] ++ a.pos) a.kw) Q E t) p2 h
  refine wpAny_bind (wpAny_holding (wpAny_mono own (fun a t ha => wpAny_bind (wpAny_standAt ?_)) fun _ _ x => x))
  simp only [p1, p3, Bool.or_false]
  exact wpAny_bind (wpAny_pure (wpAny_bind (wpAny_mono ha (fun r u hr => wpAny_bind (wpAny_holding (wpAny_point (wpAny_pure hr)))) fun _ _ x => x)))

/-- the list at a, each item in a new pair, counted from k -/
def IteK (K : PySem.W.Frag) (a : Addr) (k : Nat) : L2.It :=
  ⟨fun i H => ∃ (xs : List V) (x : V), SqL K H a xs ∧ xs[i]? = some x, fun i H v H' => ∃ T x, v = .ref T ∧ H T = none ∧ H' = upd H T (.tup [.int ((k + i : Nat) : Int), x]) ∧ ∀ xs, SqL K H a xs → xs[i]? = some x, fun i H => ∃ xs : List V, SqL K H a xs ∧ xs.length = i⟩
theorem enum_neL {h : Heap} {e it a : Addr} {i : Int} {old : Value} {items : Array Value} (he : IsEnum h e it i old) (ht : h.IsList a items) : e ≠ a := by
  intro z
  subst z
  obtain ⟨o, h1, h2, _⟩ := ht
  have he' : h.get? e = some _ := he
  rw [he'] at h1
  cases h1
  have h3 : Value.type "enumerate" = Value.type "list" := h2
  injection h3 with h4
  exact absurd h4 (by decide)
theorem turn_enumK {P : Program} {w : World} {K : PySem.W.Frag} {elts : List Expr} {kk : Nat} {tpos : Pos} (a e it : Addr) (k : Nat) :
    Turn P w K (.Tuple elts kk tpos) (IteK K a k) [e, it] e (fun i h => (∃ old, IsEnum h e it ((k + i : Nat) : Int) old) ∧ h.IsListIter it a i ∧ e ≠ it ∧ a ≠ it) where
  mem := by simp
  obj := fun i h st b hb => by
    obtain ⟨⟨old, he⟩, ⟨o,
        ho, hc, hd⟩, _⟩ := st
    rcases (show b = e ∨ b = it by simpa using hb) with z | z
    · subst z; exact ⟨_, he, fun v q => nomatch q⟩
    · subst z; exact ⟨o, ho, fun v q => by rw [hd] at q; cases q⟩
  keep := fun i h h' st k => let ⟨⟨old, he⟩, hi, hne⟩ := st; ⟨⟨old,
      k e (by simp) _ he⟩, hi.at fun o q => k it (by simp) o q, hne⟩
  item := by
    intro X hP hw hK hc i pn sh τ Hh E Iv hf st hg
    subst hP hw hK
    obtain ⟨⟨old, he⟩, hit, hne, hna⟩ := st
    obtain ⟨xs, x, hq, hx⟩ := hg
    obtain ⟨us, rv, pl, hz⟩ := Iv.list hq
    have pt := pl.isList
    obtain ⟨u, hu,
        ru⟩ := rv.get hx
    have hel : e < sh.heap.objs.size := Heap.lt_size he
    have hil : it < sh.heap.objs.size := by obtain ⟨_, q, _⟩ := hit; exact Heap.lt_size q
    have hea : e ≠ a := enum_neL he pt
    have hi : i < us.toArray.size := by rw [List.size_toArray]; exact (List.getElem?_eq_some_iff.mp hu).1
    refine wpAny_pyNext_enum_itemC (Draws.list (A := X.A.in1) (Iv.ok.hd hc) it a hna us.toArray) he ⟨hit, pt⟩ hi hne (by simp [hne, hea]) fun y h1 tk hy ho hst hT hsz hk => ?_
    have ey : y = u := by
      have e1 : us.toArray[i]? = some y := hy
      rw [List.getElem?_toArray, hu] at e1
      cases e1
      rfl
    subst ey
    refine ⟨_, rfl, wpAny_letOwnedTupleGo_enum (s := { sh with heap := h1, toks := tk + 1 }) ho fun h2 he' sb => ?_⟩
    have hT2 : h2.get? sh.heap.objs.size = some { cls := .type "tuple", data := .seq #[.int ((k + i : Nat) : Int) tk, y] } := (sb.2 _ (Nat.ne_of_gt hel)).trans hT
    have new : ObjOk X.prog X.w (upd Hh sh.heap.objs.size (.tup [.int ((k + i : Nat) : Int), x])) h2 sh.heap.objs.size (.tup [.int ((k + i : Nat) : Int), x]) :=
      ⟨by show 2 ≤ sizeLine; decide, [.int ((k + i : Nat) : Int) tk, y], .cons ⟨_, rfl⟩ (.cons ru .nil), ⟨_, hT2, rfl, _, rfl⟩⟩
    have I1 : Inv X pn τ (upd Hh sh.heap.objs.size (.tup [.int ((k + i : Nat) : Int), x])) { sh with heap := h2, toks := tk + 1 } :=
      Iv.turnedNew (ch := [e, it]) (fun b ob hb q => (sb.2 b (fun z => hb (by simp [z]))).trans (hk b ob (fun z => hb (by simp [z])) (fun z => hb (by simp [z])) q)) hf (Nat.le_refl _) new
    refine ⟨.ref sh.heap.objs.size, _, I1, rfl, ⟨_, x, rfl, Iv.hok.fresh (Nat.le_refl _), rfl, fun ys hy => by rw [Iv.list_inj hy hq]; exact hx⟩, ⟨⟨y, ?_⟩, hst.1.at fun o q => (sb.2 it (Ne.symm hne)).trans q, hne, hna⟩, fun b hb => ?_⟩
    · have e1 : ((k + (i + 1) : Nat) : Int)
        = ((k + i : Nat) : Int) + 1 := by omega
      rw [e1]
      exact he'
    · have hb' : b < sh.heap.objs.size := by
        rcases (show b = e ∨ b = it by simpa using hb) with z | z
        · subst z; exact hel
        · subst z; exact hil
      rw [upd_ne
          (Nat.ne_of_lt hb')]
      exact (hf b hb).1
  done := by
    intro X hP hw hK hc i pn sh τ Hh E Iv hf st hg
    subst hP hw hK
    obtain ⟨⟨old, he⟩, hit, hne, hna⟩ := st
    obtain ⟨xs, hq, hx⟩ := hg
    obtain ⟨us, rv, pl, hz⟩ := Iv.list hq
    have hn : us.toArray.size = i := by rw [List.size_toArray, ← rv.length]; exact hx
    refine wpAny_pyNext_enum_endD (Draws.list (A := X.A.in1) (Iv.ok.hd hc) it a hna us.toArray) he ⟨hn ▸ hit, pl.isList⟩ fun h1 hk => ⟨rfl, ?_⟩
    exact Iv.turned (it := it) (t' := sh.toks) (fun b o hb q => hk b o hb q) (hf it (by simp)).1 (hf it (by simp)).2.1 (hf it (by simp)).2.2.2.1 (hf it (by simp)).2.2.2.2.1 (hf it (by simp)).2.2.2.2.2
  self :=
      fun A i s Q E st h => by
    obtain ⟨⟨old, he⟩, _⟩ := st
    exact wpAny_pyIter_enum he h
def iEnumKT (K : PySem.W.Frag) (k : Nat) (tl : TE) : TI := fun σ H R => tl σ H fun x H1 => ∃ a, x = .ref a ∧ (∃ xs, SqL K H1 a xs) ∧ R (IteK K a k) H1
def iEnumFrom (k : Nat) (a : E) : DP.It := fun Γ => (a Γ).bind fun x Γ1 => match x.get Γ1 with
  | some (.lst xs) => .ok (enumD k xs) (freeze Γ1 x)
  | _ => .stuck
section
variable {G : Gx} {W : WX} {X : Cx} {e : Expr} {p pos kp cp tpos : Pos} {elts : List Expr} {kk j : Nat} {da : DP.E}
theorem pi_enumK {k : Nat} {tl : TE} (hg : Gl X "enumerate") (hm : X.mg "enumerate" = none) (hl : PE X e tl) (hk : k < 1000)
    (he : backTo pos (starEach [e] X.env) = (false, eval e X.env) :: backTo pos (starEach [] X.env) := by rfl) (hs : starEach [e] X.env = (false, eval e X.env) :: starEach [] X.env := by rfl) :
    PI X (.Tuple elts kk tpos) (.Call (.Name "enumerate" p) [e] [⟨some "start", .Constant (.int (k : Nat)) j cp, kp⟩] pos) (iEnumKT X.K k tl) := by
  refine ⟨fun pn sh τ Hh R Iv hyp => ?_⟩
  refine wpAny_Call_Name_kw (ld_blt Iv hg hm boot_enumerate (cw_type_kw (args_cons (thn (hl.run pn sh τ Hh _ Iv hyp) fun v s1 ⟨x, H1, I1, r1, q1⟩ => args_nil ?_) hs) he (by rw [he]; rfl) rfl rfl))
  have hkv : PK X [⟨some "start", .Constant (.int (k : Nat)) j cp, kp⟩] (tCons (tC (.int (k : Nat))) tNil) := pk_cons pe_int pk_nil
  refine thn (hkv.run pos pn s1 τ H1 (fun vs H2 => vs = [.int (k : Nat)] ∧ H2 = H1) I1 ⟨rfl, rfl⟩) fun us s2 ⟨vs, H2, I2, r2, e2, e3⟩ => ?_
  subst e2
  subst e3
  obtain ⟨u, rfl, tk, rfl⟩ := vals1 r2
  obtain ⟨ad, rfl, ⟨xs, hq⟩, q⟩ := q1
  cases r1
  have hle : ∀ b ∈ [s2.heap.objs.size + 1, s2.heap.objs.size], s2.heap.objs.size ≤ b := fun b hb => by
    rcases (show b = s2.heap.objs.size + 1 ∨ b = s2.heap.objs.size by simpa using hb) with z | z
    · subst z; exact Nat.le_succ _
    · subst z; exact Nat.le_refl _
  obtain ⟨ws, rv, pl, hz⟩ := I2.list hq
  refine enum_begins_start (k := (k : Nat)) (begins_list ad ws.toArray) pl.isList (by omega) (by omega) fun h' he hit hsz hk => wpAny_pyIter_enum he ?_
  have I3 : Inv X pn τ H2 { s2 with heap := h' } := I2.kept (t' := s2.toks) hk
  exact ⟨s2.heap.objs.size + 1, [s2.heap.objs.size + 1, s2.heap.objs.size], _, _, H2, rfl, I3, turn_enumK ad (s2.heap.objs.size + 1) s2.heap.objs.size k, ⟨⟨.none, he⟩, ⟨_, hit, rfl, rfl⟩, Nat.succ_ne_self _, Nat.ne_of_lt (let ⟨_, q, _⟩ := pl.isList; Heap.lt_size q)⟩, fun b hb => I2.fpOk (hle b hb) (I2.hok.fresh (hle b hb)), q⟩
theorem jok_enumK {F : Hp} {K : PySem.W.Frag} {ad : Addr} {ys : List V} {xs : List D} {k : Nat} (h : SqL K F ad ys) (r : Reps G F xs ys) : JOk G true F (enumD k xs) (IteK K ad k) where
  go := fun i H e hi => by
    rw [enumD_len] at hi
    exact ⟨ys, ys[i]'(by rw [r.length]; exact hi), e.seq h, List.getElem?_eq_getElem _⟩
  stop := fun H e => ⟨ys, e.seq h, by rw [r.length, enumD_len]⟩
  yld := fun i H d x H' e hd hy => by
    obtain ⟨x0, hx0, rfl⟩ := enumD_get xs k i d hd
    obtain ⟨T, w, rfl, hT, rfl, hw⟩ := hy
    obtain ⟨w', hw', rw'⟩ := r.get hx0
    have := hw ys (e.seq h)
    rw [hw'] at this
    cases this
    refine .inr ⟨rfl, T, _, _, rfl, hT, rfl, rfl, _, _, rfl, ?_, Reps.one rw'⟩
    show V.int _ = V.int _
    congr 1
theorem tri_enumK {k : Nat} (ok : Ok G X) : TrI G W true (iEnumKT X.K k (rd G W da)) (iEnumFrom k da) := fun σ H R hq => by
  obtain ⟨P, F, Γ, env, h⟩ := hq
  refine rd_bindG (Post := fun F r => IPost G W true P F σ R r) env h (fun z => z) (fun _ _ _ z => z) (fun _ _ e z => z.ext e) fun o1 Γ1 v1 F1 H1 e1 env1 ho1 h1 => ?_
  cases hx : o1.get Γ1 with
  | none => simp only [hx] at h1; exact h1.elim
  | some d =>
    simp only [hx] at h1
    cases d with
    | lst xs =>
      obtain ⟨F2, e2, env2, r2⟩ := freeze_ok env1 ho1 hx
      obtain ⟨ad, ys, rfl, h3, r⟩ := r2
      exact ⟨ad, rfl, ⟨ys, SqL.of (env2.fh _ _ h3)⟩, h1 _ F2 H1 e2 env2 (jok_enumK (SqL.of h3) r)⟩
    | _ => exact h1.elim
end
end DP

/-! DpMisc: chained comparisons, xs[i] = v, list.index, max of two, tuples to which own lists are given. -/
namespace DP
open PySem PySem.Spec
    PyProof.Rows L2

/-- a < b < c by data -/
def eCh (f g : D → D → Option Opd) (a b c : E) : E := fun Γ =>
  (a Γ).bind fun x Γ1 => (b Γ1).bind fun y Γ2 => match x.str, y.str with
    | some dx, some dy => match f dx dy with
      | some (.val (.bl true)) => (c Γ2).bind fun z Γ3 => match z.get Γ3 with
        | some dz => opt (g dy dz) Γ3
        | none => .stuck
      | some (.val (.bl false)) => .ok (.val (.bl false)) Γ2
      | _ => .stuck
    | _, _ => .stuck
def putF : D → D → D → Option D
  | .lst xs, .int i, v => if decide (0 ≤ i) && decide (i < xs.length) then some (.lst (xs.set i.toNat v)) else none
  | _, _, _ => none
/-- a method of a shared list -/
def eMtL (f : List D → List D → Option Opd) (a : E) (t : As) : E := fun Γ =>
  (a Γ).bind fun x Γ1 => match x.str with
    | some (.lst xs) => (t Γ1).bind fun os Γ2 => match gets Γ2 os with
      | some ds => opt (f xs ds) Γ2
      | none => .stuck
    | _ => .stuck
def max2F : List D → Option Opd
  | [.int i, .int j] => ov (.int (if j > i then j else i))
  | _ => none
def eTupG (t : As) : E := fun Γ => (t Γ).bind fun os Γ1 => match gets Γ1 os with
  | some ds => if ds.length ≤ 1000000 then .ok (.val (.tup ds)) (giveAll Γ1 os) else .stuck
  | none => .stuck
section
variable {G : Gx} {W : WX} {X : Cx} {a b c e o : Expr} {es : List Expr} {p pos apos cpos pos' : Pos} {da db dc : DP.E}
theorem chain_tr {f g : D → D → Option Opd} {r1 r2 : R2}
    (k1 : ∀ {P F H : Hp} {σ : L2.St} {Γ : Env} {dx dy : D} {x y : V} {o : Opd} {Q : VK}, EnvOk G P F H σ Γ → WRep G F H dx x → WRep G F H dy y → f dx dy = some o → Go G P F σ Γ o Q → r1 x y H Q)
    (k2 : ∀ {P F H : Hp} {σ : L2.St} {Γ : Env} {dx dy : D} {x y : V} {o : Opd} {Q : VK}, EnvOk G P F H σ Γ → WRep G F H dx x → WRep G F H dy y → g dx dy = some o → Go G P F σ Γ o Q → r2 x y H Q)
    (σ : L2.St) (H : Hp) (Q : VK) (hq : rd G W (eCh f g da db dc) σ H Q) : tChain r1 r2 (rd G W da) (rd G W db) (rd G W dc) σ H Q := by
  obtain ⟨P, F, Γ, env, h⟩ := hq
  refine rd_bind env h fun ox Γ1 vx F1 H1 e1 env1 ho1 h1 => ?_
  obtain ⟨F2, e2, env2, _, w1⟩ := OpdOk.wait env1 ho1
  refine rd_bind env2 (EPost.ext e2 h1) fun oy Γ2 vy F3 H3 e3 env3 ho3 h3 => ?_
  obtain ⟨F4, e4, env4, _, w2⟩ := OpdOk.wait env3 ho3
  have h4 := EPost.ext e4 h3
  cases hx : ox.str with
  | none => simp only [hx] at h4; exact h4.elim
  | some dx =>
    cases hy : oy.str with
    | none => simp only [hx, hy] at h4; exact h4.elim
    | some dy =>
      simp only [hx, hy] at h4
      have rx := w1 F4 dx (e3.sub.trans e4.sub) hx
      have ry := w2 F4 dy (Same.refl _) hy
      cases hf : f dx dy with
      | none => rw [hf] at h4; exact h4.elim
      | some z =>
        rw [hf] at h4
        cases z with
        | val d =>
          cases d with
          | bl k =>
            refine k1 env4 (.inl rx) (.inl ry) hf fun v F5 H5 e5 env5 hv => ⟨k, hv, ?_⟩
            cases k with
            | false =>
              rw [if_neg
                  Bool.false_ne_true]
              exact h4 _ F5 H5 e5 env5 rfl
            | true =>
              rw [if_pos rfl]
              refine rd_bind env5 (EPost.ext e5 h4) fun oz Γ6 vz F6 H6 e6 env6 ho6 h6 => ?_
              cases hz : oz.get Γ6 with
              | none => simp only [hz] at h6; exact h6.elim
              | some dz =>
                simp only [hz] at h6
                cases hg : g dy dz with
                | none => rw [hg] at h6; exact h6.elim
                | some w =>
                  rw [hg] at h6
                  exact k2 env6 (.inl (ry.mono (e5.sub.trans e6.sub))) (OpdOk.read env6 ho6 hz) hg h6
          | _ => exact h4.elim
        | _ => exact h4.elim
theorem de_chain {op op' : CmpOp} {f g : D → D → Option Opd} (ho : OpD G X (compareOp op) f) (ho' : OpD G X (compareOp op') g) (ha : PE X a (rd G W da)) (hb : PE X b (rd G W db)) (hc : PE X c (rd G W dc))
    (hm : lastMarks [op, op'] [b, c] = false := by with_unfolding_all rfl) : PE X (.Compare a [op, op'] [b, c] pos) (rd G W (eCh f g da db dc)) := by
  obtain ⟨r1, h1, k1⟩ := ho
  obtain ⟨r2, h2, k2⟩ := ho'
  exact PE_imp (pe_chain h1 h2 ha hb hc hm) (chain_tr k1 k2)
theorem bl_tr {d : DP.E} {t : TE} (ht : ∀ σ H Q, rd G W d σ H Q → t σ H Q) (σ : L2.St) (H : Hp) (Q : Bool → Hp → Prop) (hq : rdT G W (tE d) σ H Q) : tTest t σ H Q := by
  obtain ⟨P, F, Γ, env, h⟩ := hq
  have h : TPost G W P F σ Q (tE d Γ) := h
  refine ht σ H _ ?_
  refine rd_bindG (Post := fun F r => TPost G W P F σ Q r) env h (fun z => z) (fun _ _ _ z => z) (fun _ _ e z => z.ext e) fun o1 Γ1 v1 F1 H1 e1 env1 ho1 h1 => ?_
  cases o1 with
  | val d =>
    cases d with
    | bl k => exact ⟨k, ho1, h1 F1 H1 (DP.Ext.refl _ _) env1⟩
    | _ => exact h1.elim
  | _ => exact h1.elim
theorem dt_chain {op op' : CmpOp} {f g : D → D → Option Opd} (ho : OpD G X (compareOp op) f) (ho' : OpD G X (compareOp op') g) (ha : PE X a (rd G W da)) (hb : PE X b (rd G W db)) (hc : PE X c (rd G W dc))
    (hm : lastMarks [op, op'] [b, c] = false := by with_unfolding_all rfl) : PT X (.Compare a [op, op'] [b, c] pos) (rdT G W (tE (eCh f g da db dc))) := by
  obtain ⟨r1, h1, k1⟩ := ho
  obtain ⟨r2, h2, k2⟩ := ho'
  exact PT_imp (pt_chain h1 h2 ha hb hc hm) (bl_tr (chain_tr k1 k2))
theorem ds_put {x : Str} {px : Pos} {i value : Expr} {di dv : DP.E} (l : Nat) (hv : PE X (.Name x px) (tVar l)) (hi : PE X i (rd G W di)) (he : PE X value (rd G W dv))
    (ha : ∀ v, assign (.Subscript (.Name x px) i pos') X.env v = (do
      let ov ← holding [v] (eval (.Name x px) X.env)
      let iv ← holding [v,
          ov] (eval i X.env)
      standAt pos'
      holding [v, ov,
          iv] (setItem ov iv v)
      release [v, ov, iv] []) := by intro _; rfl)
    (hs : swapsWithSole [.Subscript (.Name x px) i pos'] value pos.line X.env = pure false := by rfl) (hw : swappedStores [.Subscript (.Name x px) i pos'] value X.env = pure none := by rfl)
    (h1 : (assignEach [.Subscript (.Name x px) i pos'] X.env).map (·.2) = [assign (.Subscript (.Name x px) i pos') X.env] := by rfl) :
    PS X (.Assign [.Subscript (.Name x px) i pos'] value pos) (rs G W (sPut putF l di dv)) := by
  refine PS_imp (ps_asg he (pg_sub hv hi set_list ha) hs hw h1) fun D σ H hq => ?_
  obtain ⟨P, F, Γ, env, h⟩ := hq
  refine rd_s env h fun o1 Γ1 v1 F1 H1 e1 env1 ho1 h1 => ?_
  cases hx : o1.str with
  | none => simp only [hx] at h1; exact h1.elim
  | some d =>
    simp only [hx] at h1
    obtain ⟨F2, e2, env2, r2⟩ := OpdOk.strong env1 ho1 hx
    cases hs1 : Γ1[l]? with
    | none => simp only [hs1] at h1; exact h1.elim
    | some s1 =>
      simp only [hs1] at h1
      cases s1 with
      | no => exact h1.elim
      | sh d => exact h1.elim
      | ex c fs => exact h1.elim
      | ow d0 =>
        obtain ⟨a, m1, m2, m3, m4⟩ := env2.slot l _ hs1
        refine ⟨.ref a, m1, ?_⟩
        refine rd_s env2 (SPost.ext e2 h1) fun oi Γ3 vi F3 H3 e3 env3 ho3 h3 => ?_
        cases oi with
        | val ii =>
          cases hs3 : Γ3[l]? with
          | none => simp only [hs3] at h3; exact h3.elim
          | some s3 =>
            simp only [hs3] at h3
            cases s3 with
            | no => exact h3.elim
            | sh d => exact h3.elim
            | ex c fs => exact h3.elim
            | ow d3 =>
              obtain ⟨a', n1, n2, n3, n4⟩ := env3.slot l _ hs3
              rw [m1] at n1
              cases n1
              dsimp only at h3
              cases hp : putF d3 ii d with
              | none => rw [hp] at h3; exact h3.elim
              | some d' =>
                rw [hp] at h3
                cases d3 with
                | lst xs =>
                  cases ii with
                  | int i =>
                    have hp : (if (decide (0 ≤ i) && decide (i < xs.length)) = true then some (DP.D.lst (xs.set i.toNat d)) else none) = some d' := hp
                    split at hp
                    · rename_i hc
                      cases hp
                      rw [Bool.and_eq_true, decide_eq_true_eq, decide_eq_true_eq] at hc
                      obtain ⟨ys, g1, g2⟩ := n4
                      have hlen := g2.length
                      refine ⟨a, ys, i, i.toNat, rfl, ho3, g1, ?_, h3 σ F3 _ (DP.Ext.refl _ _) (env3.mut hs3 m1 ⟨_, upd_same, g2.set (r2.mono e3.sub) i.toNat⟩)⟩
                      unfold ixN
                      rw [if_pos hc.1, if_pos (by rw [hlen]; omega)]
                    · cases hp
                  | _ => cases hp
                | _ => cases hp
        | _ => exact h3.elim
theorem de_lstIndex {t : As} (ok : Ok G X) (ha : PE X a (rd G W da)) (ht : PA X (e :: es) (rdA G W t)) (hbase : attributeBase a "index" X.env (eval a X.env) = eval a X.env := by rfl)
    (hfew : ((backTo cpos (starEach (e :: es) X.env)).all (fun x =>
        !x.1) && (backToKw cpos (keywordEach [] X.env)).all (fun x => x.1.isSome)
      && decide ((e :: es).length + ([] : List Keyword).length + (if ([]
          : List Keyword).isEmpty then 0 else 1) < 30)) = true := by rfl)
    (hline : (apos.endLine == cpos.line) = true := by rfl) (hs : starEach (e :: es) X.env = (false,
        eval e X.env) :: starEach es X.env := by rfl) (hplain : (backTo cpos (starEach es X.env)).any (·.1) = false := by rfl) :
    PE X (.Call (.Attribute a "index" apos) (e :: es) [] cpos) (rd G W (eMtL indexM da t)) := by
  refine PE_imp (pe_bm PySem.F.plainAttrs_list PySem.F.slot_list_index PySem.F.type_list_index mt_index ha ht hbase hfew hline hs hplain) fun σ H Q hq => ?_
  obtain ⟨P, F, Γ, env, h⟩ := hq
  refine rd_bind env h fun o1 Γ1 v1 F1 H1 e1 env1 ho1 h1 => ?_
  cases hx : o1.str with
  | none => simp only [hx] at h1; exact h1.elim
  | some dx =>
    obtain ⟨F2, e2, env2, r2⟩ := OpdOk.strong env1 ho1 hx
    simp only [hx] at h1
    cases dx with
    | lst xs =>
      simp only at h1
      obtain ⟨ad, ys, rfl, hT, hR⟩ := r2
      refine ⟨.inl ⟨rfl, ys, SqL.of (env2.fh _ _ hT)⟩, ?_⟩
      refine rdA_bind env2 (EPost.ext e2 h1) fun os Γ2 vs F3 H3 e3 env3 ho3 h3 => ?_
      cases hg : gets Γ2 os with
      | none => simp only [hg] at h3; exact h3.elim
      | some ds =>
        simp only [hg] at h3
        have hw := ho3.reads env3 hg
        cases hi : indexM xs ds with
        | none => rw [hi] at h3; exact h3.elim
        | some z =>
          rw [hi] at h3
          obtain ⟨y, rfl, c1, c2, j, hf, rfl⟩ := index_shape hi
          obtain ⟨vy, rfl, hwy⟩ := hw.one
          have hR3 := hR.mono e3.sub
          obtain ⟨k1, k2, z, k3, k4, k5⟩ := find_rep c1 c2 hR3 (hwy.flat c1) hf
          exact ⟨ad, ys, vy, j, z, rfl, rfl, SqL.of (env3.fh _ _ (e3.sub _ _ hT)), k1, k2, k3, k4, k5, Go.val env3 h3 rfl⟩
    | _ => exact h1.elim
theorem cbd_max2 (hc : X.calm = true) : CBD G X (.builtin "max") max2F :=
  ⟨_, call_max2 hc, fun {P F H σ Γ ds vs o Q} env hv e q => by
    unfold max2F ov at e
    split at e
    · cases e
      obtain ⟨v, r, rfl, h1, v2, r2, rfl, h2, h3⟩ := hv
      rw [show r2 = [] from h3]
      exact ⟨_, _, by rw [h1.int, h2.int], q.val env rfl⟩
    · cases e⟩
theorem de_tupG {x1 : _} {t : As} (ha : PA X es (rdA G W t)) : PE X (.Tuple es x1 pos) (rd G W (eTupG t)) := by
  refine PE_imp (pe_tupZ ha) fun σ H Q hq => ?_
  obtain ⟨P, F, Γ, env, h⟩ := hq
  refine rdA_bind env h fun os Γ1 vs F1 H1 e1 env1 ho h1 => ?_
  cases hg : gets Γ1 os with
  | none => simp only [hg] at h1; exact h1.elim
  | some ds =>
    simp only [hg] at h1
    split at h1
    · rename_i hl
      obtain ⟨F2, e2, env2, r⟩ := give_ok env1 ho hg
      exact ⟨by rw [r.length]; exact line_le hl, fun p ob hob hp => Go.newT env2 (Go.ext e2 h1) hp hob r⟩
    · exact h1.elim
end
end DP

/-! DpSetT: len(set(text)). -/
namespace DP
open PySem PySem.Spec
    PyProof.Rows L2

/-- how many unlike ones are among the signs that follow -/
def cntS : List Nat → List Nat → Nat
  | [], _ => 0
  | c :: r, seen => if seen.contains c then cntS r seen else cntS r (c :: seen) + 1
def sgn (c : Nat) : Str := ⟨#[c]⟩
def seenS (seen : List Nat) : Str → Bool := fun k => seen.any fun c => decide (k = sgn c)
theorem sgn_inj {a b : Nat} (h : sgn a = sgn b) : a = b := by
  have h2 : [a] = [b] := congrArg (fun y : Str => y.cps.toList) h
  exact (List.cons.inj h2).1
theorem seen_is (seen : List Nat) (c : Nat) : seenS seen (sgn c) = seen.contains c := by
  unfold seenS
  rw [Bool.eq_iff_iff, List.any_eq_true, List.contains_iff_mem]
  constructor
  · rintro ⟨d, h1, h2⟩
    rw [decide_eq_true_eq] at h2
    rw [sgn_inj h2]
    exact h1
  · intro h
    exact ⟨c, h, by simp⟩
section
variable {prog : Program} {w : World} {A : Around} {R : Result → Shared → Prop} {I S : Addr} {x : Str} {St : Nat → Heap → Prop}
/-- the signs that are left are put into the set one by one -/
theorem set_loop (Wk : Walks prog w A.in1 I [I] [I] x.cps.size (SignAt x) St) (S : Addr) (hS : S ≠ I) :
    ∀ (cs : List Nat) (i n : Nat) (seen : List Nat) (s : Shared), x.cps.toList.drop i = cs → i ≤ x.cps.size → St i s.heap → s.heap.SetOf (PySem.strKind prog w) S (seenS seen) n → n + cs.length < scanBound →
      (∀ h2 tk Sf, (∀ b o, b ≠ S → b ≠ I → s.heap.get? b = some o → h2.get? b = some o) → h2.SetOf (PySem.strKind prog w) S Sf (n + cntS cs seen) → R (.ok (.ret .none)) { s with heap := h2, toks := tk }) →
      codeAny (model prog w) A (.builtin "set.update.loop" ⟨[.ref S, .ref I], []⟩) R s
  | [], i, n, seen, s, hd, hi0, hst, hs, hb, hR => by
    have he : i = x.cps.size := by
      have := congrArg List.length hd
      rw [List.length_drop, Array.length_toList, List.length_nil] at this
      omega
    subst he
    apply codeAny_builtin PyProof.Rows.F.entry_set_update_loop
    rw [Around.under_plainId (show plainId "set.update.loop" = true from PyProof.Rows.F.plain_set_update_loop)]
    show wpAny (model prog w) A.in1 (pyNext (Value.ref I) >>= _) _ _ _
    apply wpAny_bind (Wk.done s _ _ hst _)
    intro h2 tk hk
    have hs2 : h2.SetOf (PySem.strKind prog w) S (seenS seen) n := by
      obtain ⟨o, es, ep, t, ho, more⟩ := hs
      exact ⟨o, es, ep, t, hk S _ (by simpa using hS) ho, more⟩
    exact wpAny_pure (hR h2 tk (seenS seen) (fun b o _ n2 e => hk b o (by simpa using n2) e) hs2)
  | c :: r, i, n, seen, s, hd, hi0, hst, hs, hb, hR => by
    have hlt : i < x.cps.size := by
      have := congrArg List.length hd
      rw [List.length_drop, Array.length_toList, List.length_cons] at this
      omega
    apply codeAny_builtin PyProof.Rows.F.entry_set_update_loop
    rw [Around.under_plainId (show plainId "set.update.loop" = true from PyProof.Rows.F.plain_set_update_loop)]
    show wpAny (model prog w) A.in1 (pyNext (Value.ref I) >>= _) _ _ _
    apply wpAny_bind (Wk.item i s _ _ hlt hst _)
    rintro v h1 tk ⟨d, t, hc, rfl⟩ hst1 hk
    have e1 := Fz.drop_at hc
    rw [hd] at e1
    obtain ⟨rfl, hd2⟩ := List.cons.inj e1
    have hs1 : h1.SetOf (PySem.strKind prog w) S (seenS seen) n := by
      obtain ⟨o, es, ep, tb, ho, more⟩ := hs
      exact ⟨o, es, ep, tb, hk S _ (by simpa using hS) ho, more⟩
    show wpAny _ A.in1 (holding [Value.str (sgn c) t] (setAdd S (.str (sgn c) t)) >>= _) _ _ _
    unfold setAdd
    apply wpAny_bind (wpAny_holding (wpAny_holding (wpAny_bind ((PySem.strKind prog w).pyHash (k := sgn c) (strKind_is _ _ _ _) _))))
    apply wpAny_setAddHashed_of (knd := PySem.strKind prog w) (s := { s with heap := h1, toks := tk + 1 }) (strKind_is _ _ _ _) rfl hs1 (by simp only [List.length_cons] at hb; omega)
    intro h2 hsb hS2
    have hst2 : St (i + 1) h2 := Wk.frame _ _ _ hst1 fun b hb o e => by
      have hbI : b = I := by simpa using hb
      subst hbI
      rw [hsb.2 b (Ne.symm hS)]
      exact e
    have hS3 : h2.SetOf (PySem.strKind prog w) S (seenS (if seen.contains c then seen else c :: seen)) (if seen.contains c then n else n + 1) := by
      apply SetOf_congr hS2 _ (by rw [seen_is])
      intro k
      cases hm : seen.contains c with
      | true =>
        rw [if_pos rfl]
        by_cases hk2 : k = sgn c
        · subst hk2
          rw [seen_is, hm]
          rfl
        · rw [decide_eq_false hk2, Bool.or_false]
      | false =>
        rw [if_neg
            Bool.false_ne_true]
        exact Bool.or_comm _ _
    have next := set_loop Wk S hS r (i + 1) _ _ { s with heap := h2, toks := tk + 1 } hd2.symm hlt hst2 hS3 (by simp only [List.length_cons] at hb; split <;> omega) fun h3 tk3 Sf hk3 hf => hR h3 tk3 Sf (fun b o n1 n2 e => hk3 b o n1 n2 (by
      show h2.get? b = some o
      rw [hsb.2 b n1]
      exact hk b o (by simpa using n2) e)) (by
      have e : (if seen.contains c = true then n else n + 1) + cntS r (if seen.contains c = true then seen else c :: seen) = n + cntS (c :: r) seen := by
        show _ = n + (if seen.contains c then cntS r seen else cntS r (c :: seen) + 1)
        split <;> omega
      rw [← e]
      exact hf)
    exact wpAny_pure ⟨plainId_quiet PyProof.Rows.F.plain_set_update_loop _, next⟩
end
section
variable {prog : Program} {w : World} {A : Around} {E : Value → Shared → Prop} {s : Shared} {v : Value}
/-- a set without members -/
def bare (led : Bool) : Obj := { cls := .type "set", dict := none, data := .set #[] 0 (.fresh 0 0 led) }
/-- what the __init__ owes -/
def owes (Q E : Value → Shared → Prop) (S : Addr) : Result → Shared → Prop := wants (fun r t => r = .none ∧ Q (.ref S) t) E
set_option
    maxHeartbeats 3200000 in
/-- set(v), where the __init__ is known at the new set -/
theorem set_enter {Q : Value → Shared → Prop} (hI : ∀ led, wpAny (model prog w) A.in1.in1 (Builtin.«set.__init__» { pos := [.ref s.heap.objs.size, v] })
      (fun fin t => match fin with
        | .done f => owes Q E s.heap.objs.size (.ok f) t
        | .again c => c.quiet = true ∧ codeAny (model prog w) A.in1 c (owes Q E s.heap.objs.size) t) (fun e t => owes Q E s.heap.objs.size (.error e) t) { s with heap := s.heap.push (bare led) }) : wpAny (model prog w) A (call (.type "set") [v]) Q E s := by
  obtain ⟨c, tl, mro⟩ := PySem.F.called_set.mro
  have k1 := PySem.F.called_set.made
  have k2 := PySem.F.called_set.sub
  have k3 := PySem.F.called_set.notType
  have k4 := PySem.F.called_set.canCreate
  have k5 := PySem.F.typeCall_set_1 v
  apply wpAny_call
  apply codeAny_of_tree
  show wpAny (model prog w) _ (callAny (.type "set") { pos := [v] }) _ _ _
  apply wpAny_pure
  constructor
  · exact Code.quiet_builtin _ (by decide +kernel)
  apply codeAny_builtin PySem.F.entry_type_call
  rw [Around.under_plain (weight_type_call_type "set" [v] []) rfl]
  repeat any_goals first | assumption | wp_step
  apply codeAny_mono (code_set_new_1 v (E := E) (Q₁ := fun o t => ∃ led, o = .ref s.heap.objs.size ∧ t = { s with heap := s.heap.push (bare led) }) fun led => ⟨led, rfl, rfl⟩)
  intro r t hr
  match r, hr with
  | .error e, hr => exact hr
  | .ok (.ret o), ⟨led, h1, h2⟩ =>
    subst h1
    subst h2
    have hT : Shared.TypeIs { s with heap := s.heap.push (bare led) } (.ref s.heap.objs.size) "set" := ⟨_, Heap.get?_push_size _ rfl, rfl⟩
    have k6 := PySem.F.called_set.init.lookup
    have k7 := PySem.F.called_set.init.bind (.ref s.heap.objs.size)
    repeat any_goals first | assumption | wp_step
    apply codeAny_mono (codeAny_call_builtin (R := owes Q E s.heap.objs.size) PySem.F.called_set.init.plain PySem.F.entry_set_init (check_set_init_1 hT (hI led)))
    intro r t hr
    match r, hr with
    | .error e, hr => exact hr
    | .ok (.ret o), ⟨h1, h2⟩ =>
      subst h1
      repeat any_goals first | assumption | wp_step
    | .ok .next, hr => exact hr.elim
    | .ok .brk, hr => exact hr.elim
    | .ok .cont, hr => exact hr.elim
  | .ok .next, hr => exact hr.elim
  | .ok .brk, hr => exact hr.elim
  | .ok .cont, hr => exact hr.elim
/-- set(text) -/
theorem call_set_txt {x : Str} {tx : Tok} {Q : Value → Shared → Prop} (hh : A.handled = none) (hn1 : x.cps.size < 4000)
    (h : ∀ (h2 : Heap) (tk : Nat) (Sf : Str → Bool), h2.SetOf (PySem.strKind prog w) s.heap.objs.size Sf (cntS x.cps.toList []) →
      (∀ b o, s.heap.get? b = some o → h2.get? b = some o) → Q (.ref s.heap.objs.size) { s with heap := h2, toks := tk }) :
    wpAny (model prog w) A (call (.type "set") [.str x tx]) Q E s := by
  apply set_enter
  intro led
  have n1 : isSubtype (.type "str") (.type "set") = pure false := by rw [isSubtype_type]; kernel_rfl
  have n2 : isSubtype (.type "str") (.type "frozenset") = pure false := by rw [isSubtype_type]; kernel_rfl
  have n3 : (Value.type "str" == Value.type "dict") = false := by decide
  unfold Builtin.«set.__init__» Builtin.Frozenset.updateFrom noKeywords
  generalize hPI : pyIter = PI
  wp_walk
  subst hPI
  apply wpAny_pyIter_str
  intro o St Wk hst
  apply wpAny_bind
  apply wpAny_runValue
  have hb : (s.heap.push (bare led)).objs.size = s.heap.objs.size + 1 := Heap.size_push ..
  have at0 : ((s.heap.push (bare led)).push o).get? s.heap.objs.size = some (bare led) := Heap.get?_push_of_some _ (Heap.get?_push_size _ rfl)
  have none0 : ((s.heap.push (bare led)).push o).SetOf (PySem.strKind prog w) s.heap.objs.size (seenS []) 0 :=
    PyProof.Rows.SetOf_congr ((PyProof.Rows.setObjOf_fresh (knd := PySem.strKind prog w) led).setOf at0 (by unfold scanBound; omega)) (fun _ => rfl) rfl
  apply set_loop (Wk _ (by simp [hh])) s.heap.objs.size (fun e => by rw [hb] at e; exact absurd e (Nat.ne_of_lt (Nat.lt_succ_self _))) x.cps.toList 0 0 [] _ rfl (Nat.zero_le _) hst none0 (by rw [Array.length_toList]; unfold scanBound; omega)
  intro h2 tk Sf hm hs
  rw [Nat.zero_add] at hs
  apply wpAny_pure
  apply wpAny_pure
  exact ⟨rfl, h h2 tk Sf hs fun b o e => hm b o (Nat.ne_of_lt (Heap.lt_size e)) (fun q => by have l := Heap.lt_size e; rw [q, hb] at l; exact absurd (Nat.lt_of_succ_lt l) (Nat.lt_irrefl _)) (Heap.get?_push_of_some _ (Heap.get?_push_of_some _ e))⟩
end
/-- len(set(text)) -/
def eLenSet (a : E) : E := fun Γ => (a Γ).bind fun x Γ1 => match x with
  | .val (.str s) => if s.cps.size < 4000 then .ok (.val (.int (cntS s.cps.toList []))) Γ1 else .stuck
  | _ => .stuck
section
variable {G : Gx} {W : WX} {X : Cx} {a : Expr} {p p2 q pos : Pos} {da : DP.E}
theorem cntS_le : ∀ (cs seen : List Nat), cntS cs seen ≤ cs.length
  | [], _ => Nat.le_refl _
  | c :: r, seen => by
    show (if seen.contains c then cntS r seen else cntS r (c :: seen) + 1) ≤ r.length + 1
    have h1 := cntS_le r seen
    have h2 := cntS_le r (c :: seen)
    split <;> omega
theorem de_lenSet (hc : X.calm = true) (hg : Gl X "len") (hm : X.mg "len" = none) (hg2 : Gl X "set") (hm2 : X.mg "set" = none) (ha : PE X a (rd G W da))
    (na : starEach [a] X.env = (false, eval a X.env) :: starEach [] X.env := by rfl) : PE X (.Call (.Name "len" p) [.Call (.Name "set" p2) [a] [] q] [] pos) (rd G W (eLenSet da)) := by
  refine ⟨fun pn sh τ Hh Qk Iv hq => ?_⟩
  have hr : rd G W da τ Hh (fun v H1 => ∃ s : Str, v = .str s ∧ s.cps.size < 4000 ∧ Qk (.int (cntS s.cps.toList [])) H1) := by
    obtain ⟨P, F, Γ, env, h⟩ := hq
    refine rd_bind env h fun o1 Γ1 v1 F1 H1 e1 env1 ho1 h1 => ?_
    cases o1 with
    | val d =>
      cases d with
      | str s =>
        dsimp only at h1
        split at h1
        · rename_i hl
          exact ⟨s, ho1, hl, h1 _ F1 H1 (DP.Ext.refl _ _) env1 rfl⟩
        · exact h1.elim
      | _ => exact h1.elim
    | _ => exact h1.elim
  refine Call_ (ld_blt Iv hg hm boot_len ?_)
  refine PyProof.Rows.callWith_builtin1
      (PyProof.Rows.args_cons ?_ rfl) rfl rfl
  refine Call_ (ld_blt Iv hg2 hm2 boot_set ?_)
  refine PyProof.Rows.callWith_type1 (PyProof.Rows.args_cons (thn (ha.run pn sh τ Hh _ Iv hr) fun v s1 ⟨x, H1, I1, r1, q1⟩ => PyProof.Rows.args_nil ?_) na) na rfl
  obtain ⟨z, rfl, hz, q1⟩ := q1
  obtain ⟨t, rfl⟩ := r1
  refine call_set_txt (I1.ok.hd hc) hz fun h2 tk Sf hS hk => ?_
  refine PyProof.Rows.args_nil
      ?_
  have hle := cntS_le z.cps.toList []
  rw [Array.length_toList] at hle
  obtain ⟨o, es, ep, t, ho, hex,
      hd, _, _, _, hf, hn⟩ := hS
  have I2 : Inv X pn τ H1 { s1 with heap := h2, toks := tk } := I1.kept hk
  refine call_len_set ho hex hd hf (by rw [hn]; omega) ⟨.int (cntS z.cps.toList []), H1, I2.tok _, ⟨_, by rw [hn]⟩, q1⟩
end
end DP

/-! DpKit: what gen2.py's texts use: certificates of classes and exceptions, constants. -/
namespace DP
open PySem PySem.Spec
    PyProof.Rows L2

/-- a class whose instances are made -/
structure CalI (P : Program) (w : World) (K : PySem.W.Frag) (mg : Str → Option Value) (base : Heap) (cx : CXT) (k : Nat) (c : Str) (ps : List Str) (fn : Fn) (C f : Addr) (fd : FuncData) : Prop where
  ok : FnOk P w K mg base cx k f fd ps (spI ⟨K, mg, none, none⟩ c fn)
  g : mg c = some (.ref C)
  mkC : Mk K C f
  b : Binds K fd ps []
theorem CalI.down {P : Program} {w : World} {K : PySem.W.Frag} {mg : Str → Option Value} {base : Heap} {k : Nat} {c : Str} {ps : List Str} {fn : Fn} {C f : Addr} {fd : FuncData} (M : CalI P w K mg base (L2N.CX P w) k c ps fn C f fd) : CalI P w K mg base (L2.CX P w) k c ps fn C f fd := ⟨DP.down M.ok, M.g, M.mkC, M.b⟩
/-- a class of exceptions with a field -/
structure CalX (P : Program) (w : World) (K : PySem.W.Frag) (mg : Str → Option Value) (base : Heap) (c f g : Str) (C fI : Addr) (fd : FuncData) : Prop where
  x : XCls K mg c f C fI
  ok : FnOk P w K mg base (L2.CX P w) 1 fI fd ["self", g] (spX K f)
  okH : L2H.FnH P w K mg base (L2.CX P w) 1 fI fd ["self", g] (spX K f)
  b : Binds K fd ["self", g] []
section
variable {G : Gx} {W : WX} {X : Cx} {e : Expr} {es : List Expr} {p pos pos2 cpos : Pos} {da : DP.E} {t : As} {cx : CXT}
theorem de_newI {c : Str} {fn : Fn} {k : Nat} {f C : Addr} {fd : FuncData} {ps : List Str} (M : CalI X.prog X.w X.K X.mg X.base cx k c ps fn C f fd) (ok : Ok G X) (hr : Room (k + 1) X.A) (hg : Gl X c)
    (tk : Lets cx X W) (ha : PA X (e :: es) (rdA G W t)) (hdb : (c == ("__debug__" : Str)) = false := by decide) (he : starEach (e :: es) X.env = (false, eval e X.env) :: starEach es X.env := by rfl) (hpl : (backTo pos (starEach es X.env)).any (·.1) = false := by rfl) :
    PE X (.Call (.Name c p) (e :: es) [] pos) (rd G W (eNewS fn [] t)) := de_newS [] M.mkC ok M.ok hr hg M.g M.b .nil (fun _ => rfl) tk ha hdb he hpl
theorem de_clsI {c x : Str} {fn : Fn} {k : Nat} {f C C' : Addr} {fd : FuncData} {ps : List Str} (M : CalI X.prog X.w X.K X.mg X.base cx k c ps fn C f fd) (ok : Ok G X) (hr : Room (k + 1) X.A) (hN : X.N[0]? = some x) (hv : Vis X.env.scope x) (hme : G.me = some C') (hC : X.mg c = some (.ref C'))
    (tk : Lets cx X W) (ha : PA X (e :: es) (rdA G W t)) (hdb : (x == ("__debug__" : Str)) = false := by decide) (hcd : (x == ("__classdict__" : Str)) = false := by decide) (he : starEach (e :: es) X.env = (false, eval e X.env) :: starEach es X.env := by rfl) (hpl : (backTo pos (starEach es X.env)).any (·.1) = false := by rfl) :
    PE X (.Call (.Name x p) (e :: es) [] pos) (rd G W (eNewS fn [] t)) := by
  have hC2 := M.g
  rw [hC] at hC2
  cases hC2
  exact de_newL [] M.mkC ok M.ok hr hN hv hme M.g M.b .nil (fun _ => rfl) tk ha hdb hcd he hpl
theorem de_cG {x : Str} {d : DP.D} {v : V} (hg : Gl X x) (hm : ∃ u, X.mg x = some u ∧ RelV v u) (r : ∀ F, Rep G F d v) (hd : (x == ("__debug__" : Str)) = false := by decide) : PE X (.Name x pos) (rd G W (eC d)) := by
  obtain ⟨u, hm, hv⟩ := hm
  exact de_c (pe_glob hg hm hv hd) r
theorem isa_own {c : Str} {C : Addr} (hg : X.mg c = some (.ref C)) (I : InsTy X.K C) (kt : PySem.W.kitOne X.K (.ref C) (.ref C) = some true) : IsaOk X (.ref C) (fun _ => none) (only c true) :=
  ⟨fun a b h => by (cases h), fun c' b h C' hC => by
    obtain ⟨rfl, rfl⟩ := only_is h
    rw [hg] at hC
    cases hC
    exact ⟨I, kt⟩⟩
theorem ds_rzX {c f g : Str} {C fI : Addr} {fd : FuncData} (M : CalX X.prog X.w X.K X.mg X.base c f g C fI fd) (ok : Ok G X) (hc : X.calm = true) (tk : Takes X W) (hr : Room 2 X.A) (hg : Gl X c) (ha : PE X e (rd G W da))
    (hst : starEach [e] X.env = (false, eval e X.env) :: starEach [] X.env := by rfl) (hpl : (backTo pos (starEach [] X.env)).any (·.1) = false := by rfl) (hdb : (c == ("__debug__" : Str)) = false := by decide) :
    PS X (.Raise (some (.Call (.Name c p) [e] [] pos)) none pos2) (rs G W (sRaiseX c f da)) := ds_raiseX M.x ok hc tk M.ok hr M.b passes_no hg ha hst hpl hdb
theorem ds_rzXN {c f g : Str} {C fI : Addr} {fd : FuncData} {j : Nat} (M : CalX X.prog X.w X.K X.mg X.base c f g C fI fd) (ok : Ok G X) (hot : L2H.HotC X) (tk : Takes X W) (hr : L2H.RoomH 2 X.A) (hg : Gl X c) (ha : PE X e (rd G W da))
    (hst : starEach [e] X.env = (false, eval e X.env) :: starEach [] X.env := by rfl) (hpl : (backTo pos (starEach [] X.env)).any (·.1) = false := by rfl) (hdb : (c == ("__debug__" : Str)) = false := by decide) :
    PS X (.Raise (some (.Call (.Name c p) [e] [] pos)) (some (.Constant .none j cpos)) pos2) (rs G W (sRaiseX c f da)) := ds_raiseXN M.x ok hot tk M.okH hr M.b passes_no hg ha hst hpl hdb
theorem fldOk1 {c f : Str} {C : Addr} (hg : X.mg c = some (.ref C)) (cl : Cls X.K C) (no : NoAttr X.K C f) : FldOk X [c] f := fun c' hc C' hC => by
  have hc : c' = c := by simpa using hc
  subst hc
  rw [hg] at hC
  cases hC
  exact ⟨cl, no⟩
theorem xfs1 {K : PySem.W.Frag} {mg : Str → Option Value} {c f : Str} {C : Addr} (hg : mg c = some (.ref C)) (xc : XfC K C) (no : PySem.W.findIn K (.ref C) f = some none) : XfsOk K mg [c] f := fun c' hc cls hm => by
  have hc : c' = c := by simpa using hc
  subst hc
  rw [hg] at hm
  cases hm
  exact ⟨C, rfl, xc, no⟩
end
end DP

namespace DP
open PySem L2
def g_NEW_WORDS : DP.D := .tup [.str "transpose", .str "inverse", .str "det"]
def g_PAIRS : DP.D := .tup [.str "sum", .str "diff", .str "times"]
def g__POWERS : DP.D := .tup [.str "0", .str "1", .str "2", .str "3", .str "4", .str "5", .str "6"]
def g_LOWER_CASE : DP.D := .str "abcdefghijklmnopqrstuvwxyz"
def g_DIGITS : DP.D := .str "0123456789"
def g_MOST_DIGITS : DP.D := .int 60
def g_MOST_RECIPE_STEPS : DP.D := .int 480
def g_MOST_RECIPE_LETTERS : DP.D := .int 6
def subx_WrongKind : Str → Option Bool := only "WrongKind" true
def subx_InvalidNumber : Str → Option Bool := only "InvalidNumber" true
def subx_InvalidRecipe : Str → Option Bool := only "InvalidRecipe" true
/-- 0 self 1 num 2 den 3 divisor -/
def d_Ratio__init : DP.S := (DP.sSeq (DP.sIf (DP.tE (DP.eBin DP.eqF (DP.eV 2) (DP.eC (.int 0)))) (DP.sRaise "ZeroDivisor") DP.sNext)
    (DP.sSeq (DP.sSet 3 (DP.eCB DP.gcdF (DP.aCons (DP.eV 1) (DP.aCons (DP.eV 2) DP.aNil))))
    (DP.sSeq (DP.sIf (DP.tE (DP.eBin DP.ltF (DP.eV 2) (DP.eC (.int 0)))) (DP.sSet 3 (DP.eUn DP.negF (DP.eV 3))) DP.sNext)
    (DP.sSeq (DP.sFldD ["Ratio"] "num" 0 (DP.eBin DP.fdivZF (DP.eV 1) (DP.eV 3)))
    (DP.sFldD ["Ratio"] "den" 0 (DP.eBin DP.fdivZF (DP.eV 2) (DP.eV 3)))))))
def m_Ratio__init : DP.Fn := DP.runInit "Ratio" 3 4 d_Ratio__init
/-- 0 self 1 other -/
def d_Ratio__eq : DP.S := (DP.sRet (DP.eAnd (DP.eUn (DP.isAF (fun _ => none) (only "Ratio" true)) (DP.eV 1)) (DP.eAnd (DP.eBin DP.eqF (DP.eUn (DP.fldF ["Ratio"] "num") (DP.eV 0)) (DP.eUn (DP.fldF ["Ratio"] "num") (DP.eV 1))) (DP.eBin DP.eqF (DP.eUn (DP.fldF ["Ratio"] "den") (DP.eV 0)) (DP.eUn (DP.fldF ["Ratio"] "den") (DP.eV 1))))))
def m_Ratio__eq : DP.Fn := DP.runDef 2 2 d_Ratio__eq
/-- 0 self -/
def d_Ratio__str : DP.S := (DP.sSeq (DP.sIf (DP.tE (DP.eBin DP.eqF (DP.eUn (DP.fldF ["Ratio"] "den") (DP.eV 0)) (DP.eC (.int 1)))) (DP.sRet (DP.eCB DP.strF (DP.aCons (DP.eUn (DP.fldF ["Ratio"] "num") (DP.eV 0)) DP.aNil))) DP.sNext)
    (DP.sRet (DP.eJs [(DP.eFmt (DP.eUn (DP.fldF ["Ratio"] "num") (DP.eV 0))), (DP.eC (.str "/")), (DP.eFmt (DP.eUn (DP.fldF ["Ratio"] "den") (DP.eV 0)))] Str.empty)))
def m_Ratio__str : DP.Fn := DP.runDef 1 1 d_Ratio__str
/-- 0 digits 1 char -/
def d_natural : DP.S := (DP.sSeq (DP.sIf (DP.tOr (DP.tE (DP.eBin DP.eqF (DP.eV 0) (DP.eC (.str "")))) (DP.tE (DP.eBin DP.gtF (DP.eCB DP.lenTF (DP.aCons (DP.eV 0) DP.aNil)) (DP.eC g_MOST_DIGITS)))) (DP.sRaise "InvalidNumber") DP.sNext)
    (DP.sSeq (DP.sIf (DP.tAnd (DP.tE (DP.eBin DP.eqF (DP.eBin DP.ixTF (DP.eV 0) (DP.eC (.int 0))) (DP.eC (.str "0")))) (DP.tE (DP.eBin DP.gtF (DP.eCB DP.lenTF (DP.aCons (DP.eV 0) DP.aNil)) (DP.eC (.int 1))))) (DP.sRaise "InvalidNumber") DP.sNext)
    (DP.sSeq (DP.sFor (DP.iTxt (DP.eV 0)) (DP.gN 1) (DP.sIf (DP.tE (DP.eBin DP.notInTF (DP.eV 1) (DP.eC g_DIGITS))) (DP.sRaise "InvalidNumber") DP.sNext))
    (DP.sRet (DP.eCB DP.intSF (DP.aCons (DP.eV 0) DP.aNil))))))
def m_natural : DP.Fn := DP.runDef 1 2 d_natural
/-- 0 step 1 kinds 2 word 3 first 4 second -/
def d_step_kind : DP.S := (DP.sSeq (DP.sSet 2 (DP.eBin DP.ixF (DP.eV 0) (DP.eC (.int 0))))
    (DP.sSeq (DP.sIf (DP.tOr (DP.tE (DP.eBin DP.eqF (DP.eV 2) (DP.eC (.str "letter")))) (DP.tE (DP.eBin DP.eqF (DP.eV 2) (DP.eC (.str "one"))))) (DP.sRet (DP.eC (.str "matrix"))) DP.sNext)
    (DP.sSeq (DP.sIf (DP.tE (DP.eBin DP.eqF (DP.eV 2) (DP.eC (.str "const")))) (DP.sRet (DP.eC (.str "number"))) DP.sNext)
    (DP.sSeq (DP.sIf (DP.tE (DP.eBin DP.eqF (DP.eV 2) (DP.eC (.str "scale")))) (DP.sRet (DP.eBin DP.ixF (DP.eV 1) (DP.eBin DP.ixF (DP.eV 0) (DP.eC (.int 2))))) DP.sNext)
    (DP.sSeq (DP.sIf (DP.tE (DP.eBin DP.eqF (DP.eV 2) (DP.eC (.str "power")))) (DP.sRet (DP.eBin DP.ixF (DP.eV 1) (DP.eBin DP.ixF (DP.eV 0) (DP.eC (.int 1))))) DP.sNext)
    (DP.sSeq (DP.sIf (DP.tE (DP.eBin DP.eqF (DP.eV 2) (DP.eC (.str "trace")))) (DP.sSeq (DP.sIf (DP.tE (DP.eBin DP.neF (DP.eBin DP.ixF (DP.eV 1) (DP.eBin DP.ixF (DP.eV 0) (DP.eC (.int 1)))) (DP.eC (.str "matrix")))) (DP.sRaise "WrongKind") DP.sNext)
    (DP.sRet (DP.eC (.str "number")))) DP.sNext)
    (DP.sSeq (DP.sSet 3 (DP.eBin DP.ixF (DP.eV 1) (DP.eBin DP.ixF (DP.eV 0) (DP.eC (.int 1)))))
    (DP.sSeq (DP.sSet 4 (DP.eBin DP.ixF (DP.eV 1) (DP.eBin DP.ixF (DP.eV 0) (DP.eC (.int 2)))))
    (DP.sSeq (DP.sIf (DP.tE (DP.eBin DP.eqF (DP.eV 2) (DP.eC (.str "times")))) (DP.sRet (DP.eIf (DP.tE (DP.eBin DP.eqF (DP.eV 3) (DP.eV 4))) (DP.eV 3) (DP.eC (.str "matrix")))) DP.sNext)
    (DP.sSeq (DP.sIf (DP.tE (DP.eBin DP.neF (DP.eV 3) (DP.eV 4))) (DP.sRaise "WrongKind") DP.sNext)
    (DP.sRet (DP.eV 3))))))))))))
def m_step_kind : DP.Fn := DP.runDef 2 5 d_step_kind
/-- 0 self 1 other -/
def d_Recipe__eq : DP.S := (DP.sSeq (DP.sIf (DP.tNot (DP.tTru (DP.eUn (DP.isAF (fun _ => none) (only "Recipe" true)) (DP.eV 1)))) (DP.sRet (DP.eC (.bl false))) DP.sNext)
    (DP.sRet (DP.eAnd (DP.eBin DP.eqF (DP.eUn (DP.fldF ["Recipe"] "letters") (DP.eV 0)) (DP.eUn (DP.fldF ["Recipe"] "letters") (DP.eV 1))) (DP.eAnd (DP.eBinX DP.eqF (DP.eqXF "Ratio" m_Ratio__eq) (DP.eUn (DP.fldF ["Recipe"] "steps") (DP.eV 0)) (DP.eUn (DP.fldF ["Recipe"] "steps") (DP.eV 1))) (DP.eBin DP.eqF (DP.eUn (DP.fldF ["Recipe"] "result") (DP.eV 0)) (DP.eUn (DP.fldF ["Recipe"] "result") (DP.eV 1)))))))
def m_Recipe__eq : DP.Fn := DP.runDef 2 2 d_Recipe__eq
/-- 0 self 1 step -/
def d_Recipe__is_plain : DP.S := (DP.sRet (DP.eNot (DP.eCB DP.anyF (DP.aCons (DP.eLc [1] (DP.iE (DP.eUn (DP.fldF ["Recipe"] "steps") (DP.eV 0))) (DP.gN 1) DP.tYes (DP.eBin DP.inF (DP.eBin DP.ixF (DP.eV 1) (DP.eC (.int 0))) (DP.eC g_NEW_WORDS))) DP.aNil))))
def m_Recipe__is_plain : DP.Fn := DP.runDef 1 2 d_Recipe__is_plain
/-- 0 step 1 kinds 2 word -/
def d_kind_of_step : DP.S := (DP.sSeq (DP.sSet 2 (DP.eBin DP.ixF (DP.eV 0) (DP.eC (.int 0))))
    (DP.sSeq (DP.sIf (DP.tE (DP.eBin DP.notInF (DP.eV 2) (DP.eC g_NEW_WORDS))) (DP.sRet (DP.eCall m_step_kind (DP.aCons (DP.eV 0) (DP.aCons (DP.eV 1) DP.aNil)))) DP.sNext)
    (DP.sSeq (DP.sIf (DP.tE (DP.eBin DP.neF (DP.eBin DP.ixF (DP.eV 1) (DP.eBin DP.ixF (DP.eV 0) (DP.eC (.int 1)))) (DP.eC (.str "matrix")))) (DP.sRaise "WrongKind") DP.sNext)
    (DP.sRet (DP.eIf (DP.tE (DP.eBin DP.eqF (DP.eV 2) (DP.eC (.str "det")))) (DP.eC (.str "number")) (DP.eC (.str "matrix")))))))
def m_kind_of_step : DP.Fn := DP.runDef 2 3 d_kind_of_step
/-- 0 recipe 1 lines 2 step 3 part -/
def d_show_recipe : DP.S := (DP.sSeq (DP.sSet 1 (DP.eLst (DP.aCons (DP.eBin DP.addF (DP.eC (.str "recipe ")) (DP.eIf (DP.tTru (DP.eUn (DP.fldF ["Recipe"] "letters") (DP.eV 0))) (DP.eUn (DP.fldF ["Recipe"] "letters") (DP.eV 0)) (DP.eC (.str "-")))) DP.aNil)))
    (DP.sSeq (DP.sFor (DP.iE (DP.eUn (DP.fldF ["Recipe"] "steps") (DP.eV 0))) (DP.gN 2) (DP.sDrop (DP.eMut DP.appendM 1 (DP.aCons (DP.eM1 DP.joinF (DP.eC (.str " ")) (DP.eLc [3] (DP.iE (DP.eV 2)) (DP.gN 3) DP.tYes (DP.eCBS (DP.or1 DP.strF (DP.strOwnF "Ratio" m_Ratio__str)) (DP.aCons (DP.eV 3) DP.aNil)))) DP.aNil))))
    (DP.sSeq (DP.sDrop (DP.eMut DP.appendM 1 (DP.aCons (DP.eBin DP.addF (DP.eC (.str "give ")) (DP.eCB DP.strF (DP.aCons (DP.eUn (DP.fldF ["Recipe"] "result") (DP.eV 0)) DP.aNil))) DP.aNil)))
    (DP.sRet (DP.eM1 DP.joinF (DP.eC (.str "\n")) (DP.eV 1))))))
def m_show_recipe : DP.Fn := DP.runDef 1 4 d_show_recipe
/-- 0 line 1 words 2 letters 3 letter -/
def d__read_letters : DP.S := (DP.sSeq (DP.sSet 1 (DP.eM1 DP.splitF (DP.eV 0) (DP.eC (.str " "))))
    (DP.sSeq (DP.sIf (DP.tOr (DP.tE (DP.eBin DP.neF (DP.eCB DP.lenF (DP.aCons (DP.eV 1) DP.aNil)) (DP.eC (.int 2)))) (DP.tE (DP.eBin DP.neF (DP.eBin DP.ixF (DP.eV 1) (DP.eC (.int 0))) (DP.eC (.str "recipe"))))) (DP.sRaiseX "InvalidRecipe" "line" (DP.eC (.int 1))) DP.sNext)
    (DP.sSeq (DP.sSet 2 (DP.eBin DP.ixF (DP.eV 1) (DP.eC (.int 1))))
    (DP.sSeq (DP.sIf (DP.tE (DP.eBin DP.eqF (DP.eV 2) (DP.eC (.str "-")))) (DP.sRet (DP.eC (.str ""))) DP.sNext)
    (DP.sSeq (DP.sIf (DP.tOr (DP.tNot (DP.tE (DP.eCh DP.leF DP.leF (DP.eC (.int 1)) (DP.eCB DP.lenTF (DP.aCons (DP.eV 2) DP.aNil)) (DP.eC g_MOST_RECIPE_LETTERS)))) (DP.tE (DP.eBin DP.ltF (DP.eLenSet (DP.eV 2)) (DP.eCB DP.lenTF (DP.aCons (DP.eV 2) DP.aNil))))) (DP.sRaiseX "InvalidRecipe" "line" (DP.eC (.int 1))) DP.sNext)
    (DP.sSeq (DP.sFor (DP.iTxt (DP.eV 2)) (DP.gN 3) (DP.sIf (DP.tE (DP.eBin DP.notInTF (DP.eV 3) (DP.eC g_LOWER_CASE))) (DP.sRaiseX "InvalidRecipe" "line" (DP.eC (.int 1))) DP.sNext))
    (DP.sRet (DP.eV 2))))))))
def m__read_letters : DP.Fn := DP.runDef 1 4 d__read_letters
/-- 0 words 1 steps 2 number 3 at -/
def d__read_index : DP.S := (DP.sSeq (DP.sIf (DP.tE (DP.eBin DP.neF (DP.eCB DP.lenF (DP.aCons (DP.eV 0) DP.aNil)) (DP.eC (.int 1)))) (DP.sRaiseX "InvalidRecipe" "line" (DP.eV 2)) DP.sNext)
    (DP.sSeq (DP.sFor (DP.iR1 (DP.eCB DP.lenF (DP.aCons (DP.eV 1) DP.aNil))) (DP.gN 3) (DP.sIf (DP.tE (DP.eBin DP.eqF (DP.eCB DP.strF (DP.aCons (DP.eV 3) DP.aNil)) (DP.eBin DP.ixF (DP.eV 0) (DP.eC (.int 0))))) (DP.sRet (DP.eV 3)) DP.sNext))
    (DP.sRaiseX "InvalidRecipe" "line" (DP.eV 2))))
def m__read_index : DP.Fn := DP.runDef 3 4 d__read_index
/-- 0 script 1 k -/
def d__law_cell : DP.S := (DP.sSeq (DP.sIf (DP.tE (DP.eBin DP.ltF (DP.eV 1) (DP.eCB DP.lenF (DP.aCons (DP.eV 0) DP.aNil)))) (DP.sRet (DP.eBin DP.ixF (DP.eV 0) (DP.eV 1))) DP.sNext)
    (DP.sRet (DP.eBin DP.addF (DP.eBin DP.addF (DP.eBin DP.mulF (DP.eC (.int 17)) (DP.eV 1)) (DP.eBin DP.mulF (DP.eC (.int 3)) (DP.eCB DP.lenF (DP.aCons (DP.eV 0) DP.aNil)))) (DP.eC (.int 1)))))
def m__law_cell : DP.Fn := DP.runDef 2 2 d__law_cell
/-- 0 script 1 k 2 number -/
def d__law_number : DP.S := (DP.sSeq (DP.sSet 2 (DP.eBin DP.modF (DP.eCB DP.intF (DP.aCons (DP.eCB DP.absF (DP.aCons (DP.eCall m__law_cell (DP.aCons (DP.eV 0) (DP.aCons (DP.eV 1) DP.aNil))) DP.aNil)) DP.aNil)) (DP.eBin DP.powF (DP.eC (.int 10)) (DP.eC (.int 36)))))
    (DP.sSeq (DP.sIf (DP.tE (DP.eBin DP.ltF (DP.eV 2) (DP.eBin DP.powF (DP.eC (.int 10)) (DP.eC (.int 9))))) (DP.sSeq (DP.sSet 2 (DP.eBin DP.addF (DP.eBin DP.mulF (DP.eBin DP.addF (DP.eV 2) (DP.eC (.int 5))) (DP.eBin DP.addF (DP.eV 2) (DP.eC (.int 48271)))) (DP.eBin DP.mulF (DP.eC (.int 69621)) (DP.eV 1))))
    (DP.sSeq (DP.sSet 2 (DP.eBin DP.addF (DP.eBin DP.mulF (DP.eV 2) (DP.eBin DP.addF (DP.eBin DP.modF (DP.eCB DP.intF (DP.aCons (DP.eV 2) DP.aNil)) (DP.eC (.int 65537))) (DP.eC (.int 11)))) (DP.eBin DP.fdivF (DP.eV 2) (DP.eC (.int 7)))))
    (DP.sSet 2 (DP.eBin DP.modF (DP.eCB DP.intF (DP.aCons (DP.eBin DP.mulF (DP.eV 2) (DP.eBin DP.addF (DP.eBin DP.modF (DP.eCB DP.intF (DP.aCons (DP.eV 2) DP.aNil)) (DP.eC (.int 1000003))) (DP.eC (.int 7)))) DP.aNil)) (DP.eBin DP.powF (DP.eC (.int 10)) (DP.eC (.int 36))))))) DP.sNext)
    (DP.sRet (DP.eV 2))))
def m__law_number : DP.Fn := DP.runDef 2 3 d__law_number
/-- 0 pick 1 first 2 second 3 factor 4 kinds 5 grades 6 most 7 size 8 kind 9 grade -/
def d__law_step : DP.S := (DP.sSeq (DP.sSet 8 (DP.eBin DP.ixF (DP.eV 4) (DP.eV 1)))
    (DP.sSeq (DP.sSet 9 (DP.eBin DP.ixF (DP.eV 5) (DP.eV 1)))
    (DP.sSeq (DP.sIf (DP.tAnd (DP.tE (DP.eBin DP.ltF (DP.eV 0) (DP.eC (.int 3)))) (DP.tE (DP.eBin DP.leF (DP.eBin DP.addF (DP.eV 9) (DP.eBin DP.ixF (DP.eV 5) (DP.eV 2))) (DP.eV 6)))) (DP.sSeq (DP.sIf (DP.tE (DP.eBin DP.eqF (DP.eV 8) (DP.eBin DP.ixF (DP.eV 4) (DP.eV 2)))) (DP.sRet (DP.eTup (DP.aCons (DP.eTup (DP.aCons (DP.eC (.str "times")) (DP.aCons (DP.eV 1) (DP.aCons (DP.eV 2) DP.aNil)))) (DP.aCons (DP.eV 8) (DP.aCons (DP.eBin DP.addF (DP.eV 9) (DP.eBin DP.ixF (DP.eV 5) (DP.eV 2))) DP.aNil))))) DP.sNext)
    (DP.sRet (DP.eTup (DP.aCons (DP.eTup (DP.aCons (DP.eC (.str "times")) (DP.aCons (DP.eV 1) (DP.aCons (DP.eV 2) DP.aNil)))) (DP.aCons (DP.eC (.str "matrix")) (DP.aCons (DP.eBin DP.addF (DP.eV 9) (DP.eBin DP.ixF (DP.eV 5) (DP.eV 2))) DP.aNil)))))) DP.sNext)
    (DP.sSeq (DP.sIf (DP.tAnd (DP.tE (DP.eBin DP.inF (DP.eV 0) (DP.eLst (DP.aCons (DP.eC (.int 3)) (DP.aCons (DP.eC (.int 4)) (DP.aCons (DP.eC (.int 5)) DP.aNil)))))) (DP.tE (DP.eBin DP.eqF (DP.eV 8) (DP.eBin DP.ixF (DP.eV 4) (DP.eV 2))))) (DP.sRet (DP.eTup (DP.aCons (DP.eTup (DP.aCons (DP.eBin DP.ixF (DP.eLst (DP.aCons (DP.eC (.str "sum")) (DP.aCons (DP.eC (.str "diff")) (DP.aCons (DP.eC (.str "sum")) DP.aNil)))) (DP.eBin DP.subF (DP.eV 0) (DP.eC (.int 3)))) (DP.aCons (DP.eV 1) (DP.aCons (DP.eV 2) DP.aNil)))) (DP.aCons (DP.eV 8) (DP.aCons (DP.eCB DP.max2F (DP.aCons (DP.eV 9) (DP.aCons (DP.eBin DP.ixF (DP.eV 5) (DP.eV 2)) DP.aNil))) DP.aNil))))) DP.sNext)
    (DP.sSeq (DP.sIf (DP.tAnd (DP.tE (DP.eBin DP.eqF (DP.eV 0) (DP.eC (.int 6)))) (DP.tE (DP.eBin DP.eqF (DP.eV 8) (DP.eC (.str "matrix"))))) (DP.sRet (DP.eTup (DP.aCons (DP.eTup (DP.aCons (DP.eC (.str "trace")) (DP.aCons (DP.eV 1) DP.aNil))) (DP.aCons (DP.eC (.str "number")) (DP.aCons (DP.eV 9) DP.aNil))))) DP.sNext)
    (DP.sSeq (DP.sIf (DP.tAnd (DP.tE (DP.eBin DP.eqF (DP.eV 0) (DP.eC (.int 7)))) (DP.tE (DP.eBin DP.eqF (DP.eV 8) (DP.eC (.str "matrix"))))) (DP.sRet (DP.eTup (DP.aCons (DP.eTup (DP.aCons (DP.eC (.str "transpose")) (DP.aCons (DP.eV 1) DP.aNil))) (DP.aCons (DP.eC (.str "matrix")) (DP.aCons (DP.eV 9) DP.aNil))))) DP.sNext)
    (DP.sSeq (DP.sIf (DP.tAnd (DP.tE (DP.eBin DP.eqF (DP.eV 0) (DP.eC (.int 8)))) (DP.tAnd (DP.tE (DP.eBin DP.eqF (DP.eV 8) (DP.eC (.str "matrix")))) (DP.tE (DP.eCh DP.ltF DP.leF (DP.eC (.int 0)) (DP.eBin DP.mulF (DP.eV 7) (DP.eV 9)) (DP.eV 6))))) (DP.sRet (DP.eTup (DP.aCons (DP.eTup (DP.aCons (DP.eC (.str "det")) (DP.aCons (DP.eV 1) DP.aNil))) (DP.aCons (DP.eC (.str "number")) (DP.aCons (DP.eBin DP.mulF (DP.eV 7) (DP.eV 9)) DP.aNil))))) DP.sNext)
    (DP.sSeq (DP.sIf (DP.tAnd (DP.tE (DP.eBin DP.eqF (DP.eV 0) (DP.eC (.int 9)))) (DP.tAnd (DP.tE (DP.eBin DP.eqF (DP.eV 8) (DP.eC (.str "matrix")))) (DP.tE (DP.eCh DP.ltF DP.leF (DP.eC (.int 0)) (DP.eBin DP.mulF (DP.eV 7) (DP.eV 9)) (DP.eV 6))))) (DP.sRet (DP.eTup (DP.aCons (DP.eTup (DP.aCons (DP.eC (.str "inverse")) (DP.aCons (DP.eV 1) DP.aNil))) (DP.aCons (DP.eC (.str "matrix")) (DP.aCons (DP.eBin DP.mulF (DP.eV 7) (DP.eV 9)) DP.aNil))))) DP.sNext)
    (DP.sSeq (DP.sIf (DP.tE (DP.eBin DP.eqF (DP.eV 0) (DP.eC (.int 10)))) (DP.sRet (DP.eTup (DP.aCons (DP.eTup (DP.aCons (DP.eC (.str "one")) DP.aNil)) (DP.aCons (DP.eC (.str "matrix")) (DP.aCons (DP.eC (.int 0)) DP.aNil))))) DP.sNext)
    (DP.sSeq (DP.sIf (DP.tE (DP.eBin DP.eqF (DP.eV 0) (DP.eC (.int 11)))) (DP.sRet (DP.eTup (DP.aCons (DP.eTup (DP.aCons (DP.eC (.str "const")) (DP.aCons (DP.eTup (DP.aCons (DP.eV 3) (DP.aCons (DP.eC (.int 2)) DP.aNil))) DP.aNil))) (DP.aCons (DP.eC (.str "number")) (DP.aCons (DP.eC (.int 0)) DP.aNil))))) DP.sNext)
    (DP.sSeq (DP.sIf (DP.tAnd (DP.tE (DP.eBin DP.eqF (DP.eV 0) (DP.eC (.int 2)))) (DP.tE (DP.eBin DP.leF (DP.eBin DP.mulF (DP.eC (.int 2)) (DP.eV 9)) (DP.eV 6)))) (DP.sRet (DP.eTup (DP.aCons (DP.eTup (DP.aCons (DP.eC (.str "power")) (DP.aCons (DP.eV 1) (DP.aCons (DP.eC (.int 2)) DP.aNil)))) (DP.aCons (DP.eV 8) (DP.aCons (DP.eBin DP.mulF (DP.eC (.int 2)) (DP.eV 9)) DP.aNil))))) DP.sNext)
    (DP.sRet (DP.eTup (DP.aCons (DP.eTup (DP.aCons (DP.eC (.str "scale")) (DP.aCons (DP.eTup (DP.aCons (DP.eV 3) (DP.aCons (DP.eC (.int 3)) DP.aNil))) (DP.aCons (DP.eV 1) DP.aNil)))) (DP.aCons (DP.eV 8) (DP.aCons (DP.eV 9) DP.aNil))))))))))))))))
def m__law_step : DP.Fn := DP.runDef 8 10 d__law_step
/-- 0 steps 1 given_steps 2 step -/
def d__law_given : DP.S := (DP.sSeq (DP.sSet 1 (DP.eLst DP.aNil))
    (DP.sSeq (DP.sFor (DP.iE (DP.eV 0)) (DP.gN 2) (DP.sIf (DP.tE (DP.eBin DP.eqF (DP.eBin DP.ixF (DP.eV 2) (DP.eC (.int 0))) (DP.eC (.str "const")))) (DP.sDrop (DP.eMut DP.appendM 1 (DP.aCons (DP.eTup (DP.aCons (DP.eC (.str "const")) (DP.aCons (DP.eNewS m_Ratio__init [] (DP.aCons (DP.eBin DP.ixF (DP.eBin DP.ixF (DP.eV 2) (DP.eC (.int 1))) (DP.eC (.int 0))) (DP.aCons (DP.eBin DP.ixF (DP.eBin DP.ixF (DP.eV 2) (DP.eC (.int 1))) (DP.eC (.int 1))) DP.aNil))) DP.aNil))) DP.aNil))) (DP.sIf (DP.tE (DP.eBin DP.eqF (DP.eBin DP.ixF (DP.eV 2) (DP.eC (.int 0))) (DP.eC (.str "scale")))) (DP.sDrop (DP.eMut DP.appendM 1 (DP.aCons (DP.eTup (DP.aCons (DP.eC (.str "scale")) (DP.aCons (DP.eNewS m_Ratio__init [] (DP.aCons (DP.eBin DP.ixF (DP.eBin DP.ixF (DP.eV 2) (DP.eC (.int 1))) (DP.eC (.int 0))) (DP.aCons (DP.eBin DP.ixF (DP.eBin DP.ixF (DP.eV 2) (DP.eC (.int 1))) (DP.eC (.int 1))) DP.aNil))) (DP.aCons (DP.eBin DP.ixF (DP.eV 2) (DP.eC (.int 2))) DP.aNil)))) DP.aNil))) (DP.sDrop (DP.eMut DP.appendM 1 (DP.aCons (DP.eV 2) DP.aNil))))))
    (DP.sRet (DP.eV 1))))
def m__law_given : DP.Fn := DP.runDef 1 3 d__law_given
/-- 0 number 1 many 2 alphabet 3 start 4 step 5 k -/
def d__law_letters : DP.S := (DP.sSeq (DP.sSet 2 (DP.eC (.str "abcdefghijklmnopqrstuvwxyz")))
    (DP.sSeq (DP.sSet 3 (DP.eBin DP.modF (DP.eCB DP.intF (DP.aCons (DP.eV 0) DP.aNil)) (DP.eC (.int 26))))
    (DP.sSeq (DP.sSet 4 (DP.eBin DP.ixF (DP.eLst (DP.aCons (DP.eC (.int 1)) (DP.aCons (DP.eC (.int 3)) (DP.aCons (DP.eC (.int 5)) (DP.aCons (DP.eC (.int 7)) (DP.aCons (DP.eC (.int 9)) (DP.aCons (DP.eC (.int 11)) (DP.aCons (DP.eC (.int 15)) (DP.aCons (DP.eC (.int 17)) (DP.aCons (DP.eC (.int 19)) (DP.aCons (DP.eC (.int 21)) (DP.aCons (DP.eC (.int 23)) (DP.aCons (DP.eC (.int 25)) DP.aNil))))))))))))) (DP.eBin DP.modF (DP.eCB DP.intF (DP.aCons (DP.eBin DP.fdivF (DP.eV 0) (DP.eC (.int 26))) DP.aNil)) (DP.eC (.int 12)))))
    (DP.sRet (DP.eLc [5] (DP.iR1 (DP.eV 1)) (DP.gN 5) DP.tYes (DP.eBin DP.ixTF (DP.eV 2) (DP.eBin DP.modF (DP.eCB DP.intF (DP.aCons (DP.eBin DP.addF (DP.eV 3) (DP.eBin DP.mulF (DP.eV 4) (DP.eV 5))) DP.aNil)) (DP.eC (.int 26)))))))))
def m__law_letters : DP.Fn := DP.runDef 2 6 d__law_letters
/-- 0 step 1 words 2 part -/
def d__law_line : DP.S := (DP.sSeq (DP.sSet 1 (DP.eLst (DP.aCons (DP.eBin DP.ixF (DP.eV 0) (DP.eC (.int 0))) DP.aNil)))
    (DP.sSeq (DP.sFor (DP.iE (DP.eSl DP.slF (DP.eV 0) (DP.pE (DP.eC (.int 1))) DP.pNo)) (DP.gN 2) (DP.sIf (DP.tTru (DP.eUn (DP.isTyF "tuple") (DP.eV 2))) (DP.sDrop (DP.eMut DP.appendM 1 (DP.aCons (DP.eCBS (DP.or1 DP.strF (DP.strOwnF "Ratio" m_Ratio__str)) (DP.aCons (DP.eNewS m_Ratio__init [] (DP.aCons (DP.eBin DP.ixF (DP.eV 2) (DP.eC (.int 0))) (DP.aCons (DP.eBin DP.ixF (DP.eV 2) (DP.eC (.int 1))) DP.aNil))) DP.aNil)) DP.aNil))) (DP.sDrop (DP.eMut DP.appendM 1 (DP.aCons (DP.eCB DP.strF (DP.aCons (DP.eV 2) DP.aNil)) DP.aNil)))))
    (DP.sRet (DP.eM1 DP.joinF (DP.eC (.str " ")) (DP.eV 1)))))
def m__law_line : DP.Fn := DP.runDef 1 3 d__law_line
/-- 0 way 1 at 2 kinds -/
def d__law_bad_line : DP.S := (DP.sSeq (DP.sIf (DP.tE (DP.eBin DP.eqF (DP.eV 0) (DP.eC (.int 0)))) (DP.sRet (DP.eC (.str "invert 0"))) DP.sNext)
    (DP.sSeq (DP.sIf (DP.tE (DP.eBin DP.eqF (DP.eV 0) (DP.eC (.int 1)))) (DP.sRet (DP.eBin DP.addF (DP.eC (.str "trace ")) (DP.eCB DP.strF (DP.aCons (DP.eV 1) DP.aNil)))) DP.sNext)
    (DP.sSeq (DP.sIf (DP.tE (DP.eBin DP.eqF (DP.eV 0) (DP.eC (.int 2)))) (DP.sRet (DP.eC (.str "scale 1 00"))) DP.sNext)
    (DP.sSeq (DP.sIf (DP.tE (DP.eBin DP.eqF (DP.eV 0) (DP.eC (.int 3)))) (DP.sRet (DP.eC (.str "const 2/4"))) DP.sNext)
    (DP.sSeq (DP.sIf (DP.tE (DP.eBin DP.eqF (DP.eV 0) (DP.eC (.int 4)))) (DP.sRet (DP.eC (.str "one "))) DP.sNext)
    (DP.sSeq (DP.sIf (DP.tE (DP.eBin DP.eqF (DP.eV 0) (DP.eC (.int 5)))) (DP.sRet (DP.eC (.str "sum 0"))) DP.sNext)
    (DP.sSeq (DP.sIf (DP.tE (DP.eBin DP.eqF (DP.eV 0) (DP.eC (.int 6)))) (DP.sRet (DP.eC (.str "power 0 7"))) DP.sNext)
    (DP.sSeq (DP.sIf (DP.tE (DP.eBin DP.eqF (DP.eV 0) (DP.eC (.int 7)))) (DP.sRet (DP.eC (.str "letter A"))) DP.sNext)
    (DP.sSeq (DP.sIf (DP.tE (DP.eBin DP.eqF (DP.eV 0) (DP.eC (.int 8)))) (DP.sRet (DP.eC (.str "times 0  0"))) DP.sNext)
    (DP.sSeq (DP.sIf (DP.tE (DP.eBin DP.eqF (DP.eV 0) (DP.eC (.int 9)))) (DP.sRet (DP.eC (.str "give -1"))) DP.sNext)
    (DP.sSeq (DP.sIf (DP.tAnd (DP.tE (DP.eBin DP.eqF (DP.eV 0) (DP.eC (.int 10)))) (DP.tE (DP.eBin DP.inF (DP.eC (.str "number")) (DP.eSl DP.slF (DP.eV 2) DP.pNo (DP.pE (DP.eV 1)))))) (DP.sRet (DP.eBin DP.addF (DP.eC (.str "transpose ")) (DP.eCB DP.strF (DP.aCons (DP.eMtL DP.indexM (DP.eV 2) (DP.aCons (DP.eC (.str "number")) DP.aNil)) DP.aNil)))) DP.sNext)
    (DP.sRet (DP.eC (.str ""))))))))))))))
def m__law_bad_line : DP.Fn := DP.runDef 3 3 d__law_bad_line
/-- 0 cls 1 text 2 head 3 bar 4 tail 5 negative 6 num 7 den -/
def d_Ratio__read : DP.S := (DP.sSeq (DP.sTg (DP.gT [2, 3, 4]) (DP.eM1 DP.partF (DP.eV 1) (DP.eC (.str "/"))))
    (DP.sSeq (DP.sSet 5 (DP.eBin DP.eqF (DP.eSl DP.slTF (DP.eV 2) DP.pNo (DP.pE (DP.eC (.int 1)))) (DP.eC (.str "-"))))
    (DP.sSeq (DP.sSet 6 (DP.eCall m_natural (DP.aCons (DP.eIf (DP.tTru (DP.eV 5)) (DP.eSl DP.slTF (DP.eV 2) (DP.pE (DP.eC (.int 1))) DP.pNo) (DP.eV 2)) DP.aNil)))
    (DP.sSeq (DP.sIf (DP.tAnd (DP.tTru (DP.eV 5)) (DP.tE (DP.eBin DP.eqF (DP.eV 6) (DP.eC (.int 0))))) (DP.sRaise "InvalidNumber") DP.sNext)
    (DP.sSeq (DP.sSet 7 (DP.eC (.int 1)))
    (DP.sSeq (DP.sIf (DP.tE (DP.eBin DP.eqF (DP.eV 3) (DP.eC (.str "/")))) (DP.sSeq (DP.sSet 7 (DP.eCall m_natural (DP.aCons (DP.eV 4) DP.aNil)))
    (DP.sIf (DP.tOr (DP.tE (DP.eBin DP.ltF (DP.eV 7) (DP.eC (.int 2)))) (DP.tE (DP.eBin DP.gtF (DP.eCB DP.gcdF (DP.aCons (DP.eV 6) (DP.aCons (DP.eV 7) DP.aNil))) (DP.eC (.int 1))))) (DP.sRaise "InvalidNumber") DP.sNext)) DP.sNext)
    (DP.sRet (DP.eNewS m_Ratio__init [] (DP.aCons (DP.eIf (DP.tTru (DP.eV 5)) (DP.eUn DP.negF (DP.eV 6)) (DP.eV 6)) (DP.aCons (DP.eV 7) DP.aNil))))))))))
def m_Ratio__read : DP.Fn := DP.runCls 2 8 d_Ratio__read
/-- 0 self 1 letters 2 steps 3 result 4 kinds 5 step -/
def d_Recipe__init : DP.S := (DP.sSeq (DP.sSet 4 (DP.eLst DP.aNil))
    (DP.sSeq (DP.sFor (DP.iE (DP.eV 2)) (DP.gN 5) (DP.sDrop (DP.eMut DP.appendM 4 (DP.aCons (DP.eCall m_kind_of_step (DP.aCons (DP.eV 5) (DP.aCons (DP.eV 4) DP.aNil))) DP.aNil))))
    (DP.sSeq (DP.sFldD ["Recipe"] "letters" 0 (DP.eV 1))
    (DP.sSeq (DP.sFldD ["Recipe"] "steps" 0 (DP.eCB DP.tupleF (DP.aCons (DP.eV 2) DP.aNil)))
    (DP.sSeq (DP.sFldD ["Recipe"] "kinds" 0 (DP.eCB DP.tupleF (DP.aCons (DP.eV 4) DP.aNil)))
    (DP.sSeq (DP.sFldD ["Recipe"] "result" 0 (DP.eV 3))
    (DP.sFldD ["Recipe"] "kind" 0 (DP.eBin DP.ixF (DP.eV 4) (DP.eV 3)))))))))
def m_Recipe__init : DP.Fn := DP.runInit "Recipe" 4 6 d_Recipe__init
/-- 0 text 1 number -/
def d__read_ratio : DP.S := (DP.sTryX subx_InvalidNumber (DP.sRet (DP.eGive m_Ratio__read (DP.aCons (DP.eV 0) DP.aNil))) (DP.sRaiseX "InvalidRecipe" "line" (DP.eV 1)))
def m__read_ratio : DP.Fn := DP.runDef 2 2 d__read_ratio
/-- 0 words 1 letters 2 steps 3 number 4 word -/
def d__read_step : DP.S := (DP.sSeq (DP.sSet 4 (DP.eBin DP.ixF (DP.eV 0) (DP.eC (.int 0))))
    (DP.sSeq (DP.sIf (DP.tE (DP.eBin DP.eqF (DP.eCB DP.lenF (DP.aCons (DP.eV 2) DP.aNil)) (DP.eC g_MOST_RECIPE_STEPS))) (DP.sRaiseX "InvalidRecipe" "line" (DP.eV 3)) DP.sNext)
    (DP.sSeq (DP.sIf (DP.tAnd (DP.tE (DP.eBin DP.eqF (DP.eV 4) (DP.eC (.str "one")))) (DP.tE (DP.eBin DP.eqF (DP.eCB DP.lenF (DP.aCons (DP.eV 0) DP.aNil)) (DP.eC (.int 1))))) (DP.sRet (DP.eTup (DP.aCons (DP.eC (.str "one")) DP.aNil))) DP.sNext)
    (DP.sSeq (DP.sIf (DP.tAnd (DP.tE (DP.eBin DP.eqF (DP.eV 4) (DP.eC (.str "letter")))) (DP.tAnd (DP.tE (DP.eBin DP.eqF (DP.eCB DP.lenF (DP.aCons (DP.eV 0) DP.aNil)) (DP.eC (.int 2)))) (DP.tAnd (DP.tE (DP.eBin DP.eqF (DP.eCB DP.lenTF (DP.aCons (DP.eBin DP.ixF (DP.eV 0) (DP.eC (.int 1))) DP.aNil)) (DP.eC (.int 1)))) (DP.tE (DP.eBin DP.inTF (DP.eBin DP.ixF (DP.eV 0) (DP.eC (.int 1))) (DP.eV 1)))))) (DP.sRet (DP.eTup (DP.aCons (DP.eC (.str "letter")) (DP.aCons (DP.eBin DP.ixF (DP.eV 0) (DP.eC (.int 1))) DP.aNil)))) DP.sNext)
    (DP.sSeq (DP.sIf (DP.tAnd (DP.tE (DP.eBin DP.eqF (DP.eV 4) (DP.eC (.str "const")))) (DP.tE (DP.eBin DP.eqF (DP.eCB DP.lenF (DP.aCons (DP.eV 0) DP.aNil)) (DP.eC (.int 2))))) (DP.sRet (DP.eTup (DP.aCons (DP.eC (.str "const")) (DP.aCons (DP.eCall m__read_ratio (DP.aCons (DP.eBin DP.ixF (DP.eV 0) (DP.eC (.int 1))) (DP.aCons (DP.eV 3) DP.aNil))) DP.aNil)))) DP.sNext)
    (DP.sSeq (DP.sIf (DP.tAnd (DP.tE (DP.eBin DP.eqF (DP.eV 4) (DP.eC (.str "scale")))) (DP.tE (DP.eBin DP.eqF (DP.eCB DP.lenF (DP.aCons (DP.eV 0) DP.aNil)) (DP.eC (.int 3))))) (DP.sRet (DP.eTup (DP.aCons (DP.eC (.str "scale")) (DP.aCons (DP.eCall m__read_ratio (DP.aCons (DP.eBin DP.ixF (DP.eV 0) (DP.eC (.int 1))) (DP.aCons (DP.eV 3) DP.aNil))) (DP.aCons (DP.eCall m__read_index (DP.aCons (DP.eSl DP.slF (DP.eV 0) (DP.pE (DP.eC (.int 2))) DP.pNo) (DP.aCons (DP.eV 2) (DP.aCons (DP.eV 3) DP.aNil)))) DP.aNil))))) DP.sNext)
    (DP.sSeq (DP.sIf (DP.tAnd (DP.tE (DP.eBin DP.eqF (DP.eV 4) (DP.eC (.str "power")))) (DP.tAnd (DP.tE (DP.eBin DP.eqF (DP.eCB DP.lenF (DP.aCons (DP.eV 0) DP.aNil)) (DP.eC (.int 3)))) (DP.tE (DP.eBin DP.inF (DP.eBin DP.ixF (DP.eV 0) (DP.eC (.int 2))) (DP.eC g__POWERS))))) (DP.sRet (DP.eTup (DP.aCons (DP.eC (.str "power")) (DP.aCons (DP.eCall m__read_index (DP.aCons (DP.eSl DP.slF (DP.eV 0) (DP.pE (DP.eC (.int 1))) (DP.pE (DP.eC (.int 2)))) (DP.aCons (DP.eV 2) (DP.aCons (DP.eV 3) DP.aNil)))) (DP.aCons (DP.eCB DP.intSF (DP.aCons (DP.eBin DP.ixF (DP.eV 0) (DP.eC (.int 2))) DP.aNil)) DP.aNil))))) DP.sNext)
    (DP.sSeq (DP.sIf (DP.tAnd (DP.tE (DP.eBin DP.inF (DP.eV 4) (DP.eC g_PAIRS))) (DP.tE (DP.eBin DP.eqF (DP.eCB DP.lenF (DP.aCons (DP.eV 0) DP.aNil)) (DP.eC (.int 3))))) (DP.sRet (DP.eTup (DP.aCons (DP.eV 4) (DP.aCons (DP.eCall m__read_index (DP.aCons (DP.eSl DP.slF (DP.eV 0) (DP.pE (DP.eC (.int 1))) (DP.pE (DP.eC (.int 2)))) (DP.aCons (DP.eV 2) (DP.aCons (DP.eV 3) DP.aNil)))) (DP.aCons (DP.eCall m__read_index (DP.aCons (DP.eSl DP.slF (DP.eV 0) (DP.pE (DP.eC (.int 2))) DP.pNo) (DP.aCons (DP.eV 2) (DP.aCons (DP.eV 3) DP.aNil)))) DP.aNil))))) DP.sNext)
    (DP.sSeq (DP.sIf (DP.tOr (DP.tE (DP.eBin DP.eqF (DP.eV 4) (DP.eC (.str "trace")))) (DP.tE (DP.eBin DP.inF (DP.eV 4) (DP.eC g_NEW_WORDS)))) (DP.sRet (DP.eTup (DP.aCons (DP.eV 4) (DP.aCons (DP.eCall m__read_index (DP.aCons (DP.eSl DP.slF (DP.eV 0) (DP.pE (DP.eC (.int 1))) DP.pNo) (DP.aCons (DP.eV 2) (DP.aCons (DP.eV 3) DP.aNil)))) DP.aNil)))) DP.sNext)
    (DP.sRaiseX "InvalidRecipe" "line" (DP.eV 3)))))))))))
def m__read_step : DP.Fn := DP.runDef 4 5 d__read_step
/-- 0 number 1 letters 2 many 3 most 4 backs 5 size 6 steps 7 letter 8 kinds 9 grades 10 left 11 turn 12 pick 13 first 14 second 15 factor 16 made -/
def d__law_steps : DP.S := (DP.sSeq (DP.sSet 6 (DP.eLc [7] (DP.iE (DP.eV 1)) (DP.gN 7) DP.tYes (DP.eTup (DP.aCons (DP.eC (.str "letter")) (DP.aCons (DP.eV 7) DP.aNil)))))
    (DP.sSeq (DP.sSet 8 (DP.eLc [7] (DP.iE (DP.eV 1)) (DP.gN 7) DP.tYes (DP.eC (.str "matrix"))))
    (DP.sSeq (DP.sSet 9 (DP.eLc [7] (DP.iE (DP.eV 1)) (DP.gN 7) DP.tYes (DP.eC (.int 1))))
    (DP.sSeq (DP.sIf (DP.tE (DP.eBin DP.eqF (DP.eCB DP.lenF (DP.aCons (DP.eV 6) DP.aNil)) (DP.eC (.int 0)))) (DP.sSeq (DP.sDrop (DP.eMut DP.appendM 6 (DP.aCons (DP.eTup (DP.aCons (DP.eC (.str "one")) DP.aNil)) DP.aNil)))
    (DP.sSeq (DP.sDrop (DP.eMut DP.appendM 8 (DP.aCons (DP.eC (.str "matrix")) DP.aNil)))
    (DP.sDrop (DP.eMut DP.appendM 9 (DP.aCons (DP.eC (.int 0)) DP.aNil))))) DP.sNext)
    (DP.sSeq (DP.sSet 10 (DP.eV 4))
    (DP.sSeq (DP.sFor (DP.iR1 (DP.eV 2)) (DP.gN 11) (DP.sSeq (DP.sSet 12 (DP.eBin DP.modF (DP.eCB DP.intF (DP.aCons (DP.eV 0) DP.aNil)) (DP.eC (.int 12))))
    (DP.sSeq (DP.sSet 13 (DP.eBin DP.modF (DP.eCB DP.intF (DP.aCons (DP.eBin DP.fdivF (DP.eV 0) (DP.eC (.int 12))) DP.aNil)) (DP.eCB DP.lenF (DP.aCons (DP.eV 6) DP.aNil))))
    (DP.sSeq (DP.sSet 14 (DP.eBin DP.modF (DP.eCB DP.intF (DP.aCons (DP.eBin DP.fdivF (DP.eBin DP.fdivF (DP.eV 0) (DP.eC (.int 12))) (DP.eCB DP.lenF (DP.aCons (DP.eV 6) DP.aNil))) DP.aNil)) (DP.eCB DP.lenF (DP.aCons (DP.eV 6) DP.aNil))))
    (DP.sSeq (DP.sSet 15 (DP.eBin DP.subF (DP.eBin DP.modF (DP.eCB DP.intF (DP.aCons (DP.eBin DP.fdivF (DP.eV 0) (DP.eC (.int 5))) DP.aNil)) (DP.eC (.int 7))) (DP.eC (.int 3))))
    (DP.sSeq (DP.sSet 0 (DP.eBin DP.fdivF (DP.eBin DP.fdivF (DP.eBin DP.fdivF (DP.eV 0) (DP.eC (.int 12))) (DP.eCB DP.lenF (DP.aCons (DP.eV 6) DP.aNil))) (DP.eCB DP.lenF (DP.aCons (DP.eV 6) DP.aNil))))
    (DP.sSeq (DP.sSet 16 (DP.eCall m__law_step (DP.aCons (DP.eV 12) (DP.aCons (DP.eV 13) (DP.aCons (DP.eV 14) (DP.aCons (DP.eV 15) (DP.aCons (DP.eV 8) (DP.aCons (DP.eV 9) (DP.aCons (DP.eV 3) (DP.aCons (DP.eV 5) DP.aNil))))))))))
    (DP.sSeq (DP.sIf (DP.tE (DP.eBin DP.eqF (DP.eBin DP.ixF (DP.eBin DP.ixF (DP.eV 16) (DP.eC (.int 0))) (DP.eC (.int 0))) (DP.eC (.str "inverse")))) (DP.sSeq (DP.sIf (DP.tE (DP.eBin DP.eqF (DP.eV 10) (DP.eC (.int 0)))) (DP.sSet 16 (DP.eTup (DP.aCons (DP.eTup (DP.aCons (DP.eC (.str "transpose")) (DP.aCons (DP.eV 13) DP.aNil))) (DP.aCons (DP.eC (.str "matrix")) (DP.aCons (DP.eBin DP.ixF (DP.eV 9) (DP.eV 13)) DP.aNil))))) DP.sNext)
    (DP.sSet 10 (DP.eCB DP.max2F (DP.aCons (DP.eBin DP.subF (DP.eV 10) (DP.eC (.int 1))) (DP.aCons (DP.eC (.int 0)) DP.aNil))))) DP.sNext)
    (DP.sSeq (DP.sDrop (DP.eMut DP.appendM 6 (DP.aCons (DP.eBin DP.ixF (DP.eV 16) (DP.eC (.int 0))) DP.aNil)))
    (DP.sSeq (DP.sDrop (DP.eMut DP.appendM 8 (DP.aCons (DP.eBin DP.ixF (DP.eV 16) (DP.eC (.int 1))) DP.aNil)))
    (DP.sDrop (DP.eMut DP.appendM 9 (DP.aCons (DP.eBin DP.ixF (DP.eV 16) (DP.eC (.int 2))) DP.aNil)))))))))))))
    (DP.sRet (DP.eTupG (DP.aCons (DP.eV 6) (DP.aCons (DP.eV 8) DP.aNil))))))))))
def m__law_steps : DP.Fn := DP.runDef 6 17 d__law_steps
/-- 0 text 1 lines 2 letters 3 steps 4 kinds 5 number 6 line 7 words 8 step 9 result -/
def d_read_recipe : DP.S := (DP.sSeq (DP.sSet 1 (DP.eM1 DP.splitF (DP.eV 0) (DP.eC (.str "\n"))))
    (DP.sSeq (DP.sSet 2 (DP.eCall m__read_letters (DP.aCons (DP.eBin DP.ixF (DP.eV 1) (DP.eC (.int 0))) DP.aNil)))
    (DP.sSeq (DP.sSet 3 (DP.eLst DP.aNil))
    (DP.sSeq (DP.sSet 4 (DP.eLst DP.aNil))
    (DP.sSeq (DP.sFor (DP.iEnumFrom 2 (DP.eSl DP.slF (DP.eV 1) (DP.pE (DP.eC (.int 1))) DP.pNo)) (DP.gT [5, 6]) (DP.sSeq (DP.sSet 7 (DP.eM1 DP.splitF (DP.eV 6) (DP.eC (.str " "))))
    (DP.sSeq (DP.sIf (DP.tE (DP.eBin DP.eqF (DP.eBin DP.ixF (DP.eV 7) (DP.eC (.int 0))) (DP.eC (.str "give")))) (DP.sSeq (DP.sSet 9 (DP.eCall m__read_index (DP.aCons (DP.eSl DP.slF (DP.eV 7) (DP.pE (DP.eC (.int 1))) DP.pNo) (DP.aCons (DP.eV 3) (DP.aCons (DP.eV 5) DP.aNil)))))
    (DP.sSeq (DP.sIf (DP.tE (DP.eBin DP.ltF (DP.eV 5) (DP.eCB DP.lenF (DP.aCons (DP.eV 1) DP.aNil)))) (DP.sRaiseX "InvalidRecipe" "line" (DP.eBin DP.addF (DP.eV 5) (DP.eC (.int 1)))) DP.sNext)
    (DP.sRet (DP.eNewS m_Recipe__init [] (DP.aCons (DP.eV 2) (DP.aCons (DP.eV 3) (DP.aCons (DP.eV 9) DP.aNil))))))) DP.sNext)
    (DP.sSeq (DP.sSet 8 (DP.eCall m__read_step (DP.aCons (DP.eV 7) (DP.aCons (DP.eV 2) (DP.aCons (DP.eV 3) (DP.aCons (DP.eV 5) DP.aNil))))))
    (DP.sSeq (DP.sTryX subx_WrongKind (DP.sDrop (DP.eMut DP.appendM 4 (DP.aCons (DP.eCall m_kind_of_step (DP.aCons (DP.eV 8) (DP.aCons (DP.eV 4) DP.aNil))) DP.aNil))) (DP.sRaiseX "InvalidRecipe" "line" (DP.eV 5)))
    (DP.sDrop (DP.eMut DP.appendM 3 (DP.aCons (DP.eV 8) DP.aNil))))))))
    (DP.sRaiseX "InvalidRecipe" "line" (DP.eBin DP.addF (DP.eCB DP.lenF (DP.aCons (DP.eV 1) DP.aNil)) (DP.eC (.int 1)))))))))
def m_read_recipe : DP.Fn := DP.runDef 1 10 d_read_recipe
/-- 0 script 1 number 2 letters 3 size 4 steps 5 kinds 6 result 7 recipe 8 lines 9 step 10 text 11 back 12 way 13 place 14 bad 15 due 16 turn 17 error 18 numbers 19 at -/
def d_law : DP.S := (DP.sSeq (DP.sSet 1 (DP.eCall m__law_number (DP.aCons (DP.eV 0) (DP.aCons (DP.eC (.int 0)) DP.aNil))))
    (DP.sSeq (DP.sSet 2 (DP.eCall m__law_letters (DP.aCons (DP.eV 1) (DP.aCons (DP.eBin DP.modF (DP.eCB DP.intF (DP.aCons (DP.eBin DP.fdivF (DP.eV 1) (DP.eC (.int 1000))) DP.aNil)) (DP.eC (.int 5))) DP.aNil))))
    (DP.sSeq (DP.sSet 3 (DP.eBin DP.addF (DP.eC (.int 1)) (DP.eBin DP.modF (DP.eCB DP.intF (DP.aCons (DP.eBin DP.fdivF (DP.eV 1) (DP.eC (.int 5000))) DP.aNil)) (DP.eC (.int 3)))))
    (DP.sSeq (DP.sTg (DP.gT [4, 5]) (DP.eCall m__law_steps (DP.aCons (DP.eCall m__law_number (DP.aCons (DP.eV 0) (DP.aCons (DP.eC (.int 1)) DP.aNil))) (DP.aCons (DP.eV 2) (DP.aCons (DP.eBin DP.modF (DP.eCB DP.intF (DP.aCons (DP.eBin DP.fdivF (DP.eV 1) (DP.eC (.int 15000))) DP.aNil)) (DP.eC (.int 11))) (DP.aCons (DP.eC (.int 8)) (DP.aCons (DP.eC (.int 3)) (DP.aCons (DP.eV 3) DP.aNil))))))))
    (DP.sSeq (DP.sSet 6 (DP.eBin DP.modF (DP.eCB DP.intF (DP.aCons (DP.eBin DP.fdivF (DP.eV 1) (DP.eC (.int 165000))) DP.aNil)) (DP.eCB DP.lenF (DP.aCons (DP.eV 4) DP.aNil))))
    (DP.sSeq (DP.sSet 7 (DP.eNewS m_Recipe__init [] (DP.aCons (DP.eM1 DP.joinF (DP.eC (.str "")) (DP.eV 2)) (DP.aCons (DP.eCall m__law_given (DP.aCons (DP.eV 4) DP.aNil)) (DP.aCons (DP.eV 6) DP.aNil)))))
    (DP.sSeq (DP.sSet 8 (DP.eLst (DP.aCons (DP.eBin DP.addF (DP.eC (.str "recipe ")) (DP.eM1 DP.joinF (DP.eC (.str "")) (DP.eV 2))) DP.aNil)))
    (DP.sSeq (DP.sIf (DP.tE (DP.eBin DP.eqF (DP.eCB DP.lenF (DP.aCons (DP.eV 2) DP.aNil)) (DP.eC (.int 0)))) (DP.sSet 8 (DP.eLst (DP.aCons (DP.eC (.str "recipe -")) DP.aNil))) DP.sNext)
    (DP.sSeq (DP.sSet 8 (DP.eBin DP.addF (DP.eBin DP.addF (DP.eV 8) (DP.eLc [9] (DP.iE (DP.eV 4)) (DP.gN 9) DP.tYes (DP.eCall m__law_line (DP.aCons (DP.eV 9) DP.aNil)))) (DP.eLst (DP.aCons (DP.eBin DP.addF (DP.eC (.str "give ")) (DP.eCB DP.strF (DP.aCons (DP.eV 6) DP.aNil))) DP.aNil))))
    (DP.sSeq (DP.sSet 10 (DP.eM1 DP.joinF (DP.eC (.str "\n")) (DP.eV 8)))
    (DP.sSeq (DP.sSet 11 (DP.eCall m_read_recipe (DP.aCons (DP.eV 10) DP.aNil)))
    (DP.sSeq (DP.sIf (DP.tOr (DP.tE (DP.eBin DP.neF (DP.eCall m_show_recipe (DP.aCons (DP.eV 7) DP.aNil)) (DP.eV 10))) (DP.tOr (DP.tNot (DP.tE (DP.eBinX DP.eqF (DP.alikeF "Recipe" m_Recipe__eq) (DP.eV 11) (DP.eV 7)))) (DP.tOr (DP.tE (DP.eBin DP.neF (DP.eCB DP.listF (DP.aCons (DP.eUn (DP.fldF ["Recipe"] "kinds") (DP.eV 7)) DP.aNil)) (DP.eV 5))) (DP.tE (DP.eBin DP.neF (DP.eUn (DP.fldF ["Recipe"] "kinds") (DP.eV 11)) (DP.eUn (DP.fldF ["Recipe"] "kinds") (DP.eV 7))))))) (DP.sRet (DP.eC (.bl false))) DP.sNext)
    (DP.sSeq (DP.sIf (DP.tOr (DP.tE (DP.eBin DP.neF (DP.eUn (DP.fldF ["Recipe"] "kind") (DP.eV 7)) (DP.eBin DP.ixF (DP.eV 5) (DP.eV 6)))) (DP.tOr (DP.tE (DP.eBin DP.neF (DP.eUn (DP.fldF ["Recipe"] "letters") (DP.eV 11)) (DP.eM1 DP.joinF (DP.eC (.str "")) (DP.eV 2)))) (DP.tOr (DP.tE (DP.eBin DP.neF (DP.eUn (DP.fldF ["Recipe"] "result") (DP.eV 11)) (DP.eV 6))) (DP.tE (DP.eBin DP.neF (DP.eCB DP.lenF (DP.aCons (DP.eUn (DP.fldF ["Recipe"] "steps") (DP.eV 11)) DP.aNil)) (DP.eCB DP.lenF (DP.aCons (DP.eV 4) DP.aNil))))))) (DP.sRet (DP.eC (.bl false))) DP.sNext)
    (DP.sSeq (DP.sIf (DP.tE (DP.eBin DP.neF (DP.eProp "Recipe" m_Recipe__is_plain (DP.eV 7)) (DP.eBin DP.eqF (DP.eCB DP.lenF (DP.aCons (DP.eLc [9] (DP.iE (DP.eV 4)) (DP.gN 9) (DP.tE (DP.eBin DP.inF (DP.eBin DP.ixF (DP.eV 9) (DP.eC (.int 0))) (DP.eLst (DP.aCons (DP.eC (.str "transpose")) (DP.aCons (DP.eC (.str "inverse")) (DP.aCons (DP.eC (.str "det")) DP.aNil)))))) (DP.eV 9)) DP.aNil)) (DP.eC (.int 0))))) (DP.sRet (DP.eC (.bl false))) DP.sNext)
    (DP.sSeq (DP.sSet 12 (DP.eBin DP.modF (DP.eCB DP.intF (DP.aCons (DP.eBin DP.fdivF (DP.eV 1) (DP.eBin DP.powF (DP.eC (.int 7)) (DP.eC (.int 9)))) DP.aNil)) (DP.eC (.int 15))))
    (DP.sSeq (DP.sSet 13 (DP.eBin DP.addF (DP.eC (.int 1)) (DP.eBin DP.modF (DP.eCB DP.intF (DP.aCons (DP.eBin DP.fdivF (DP.eV 1) (DP.eBin DP.powF (DP.eC (.int 7)) (DP.eC (.int 11)))) DP.aNil)) (DP.eCB DP.lenF (DP.aCons (DP.eV 4) DP.aNil)))))
    (DP.sSeq (DP.sSet 14 (DP.eCB DP.listF (DP.aCons (DP.eV 8) DP.aNil)))
    (DP.sSeq (DP.sSet 15 (DP.eBin DP.addF (DP.eV 13) (DP.eC (.int 1))))
    (DP.sSeq (DP.sIf (DP.tE (DP.eBin DP.eqF (DP.eV 12) (DP.eC (.int 11)))) (DP.sSeq (DP.sSet 14 (DP.eSl DP.slF (DP.eV 8) DP.pNo (DP.pE (DP.eBin DP.subF (DP.eCB DP.lenF (DP.aCons (DP.eV 8) DP.aNil)) (DP.eC (.int 1))))))
    (DP.sSet 15 (DP.eCB DP.lenF (DP.aCons (DP.eV 8) DP.aNil)))) (DP.sIf (DP.tE (DP.eBin DP.eqF (DP.eV 12) (DP.eC (.int 12)))) (DP.sSeq (DP.sSet 14 (DP.eBin DP.addF (DP.eV 8) (DP.eLst (DP.aCons (DP.eC (.str "one")) DP.aNil))))
    (DP.sSet 15 (DP.eBin DP.addF (DP.eCB DP.lenF (DP.aCons (DP.eV 8) DP.aNil)) (DP.eC (.int 1))))) (DP.sIf (DP.tE (DP.eBin DP.eqF (DP.eV 12) (DP.eC (.int 13)))) (DP.sSeq (DP.sPut DP.putF 14 (DP.eC (.int 0)) (DP.eBin DP.addF (DP.eC (.str "recipe ")) (DP.eC (.str "aa"))))
    (DP.sSet 15 (DP.eC (.int 1)))) (DP.sIf (DP.tE (DP.eBin DP.eqF (DP.eV 12) (DP.eC (.int 14)))) (DP.sSeq (DP.sPut DP.putF 14 (DP.eC (.int 0)) (DP.eC (.str "recipe abcdefg")))
    (DP.sSet 15 (DP.eC (.int 1)))) (DP.sPut DP.putF 14 (DP.eV 13) (DP.eCall m__law_bad_line (DP.aCons (DP.eV 12) (DP.aCons (DP.eBin DP.subF (DP.eV 13) (DP.eC (.int 1))) (DP.aCons (DP.eV 5) DP.aNil)))))))))
    (DP.sSeq (DP.sFor (DP.iR1 (DP.eC (.int 2))) (DP.gN 16) (DP.sSeq (DP.sIf (DP.tAnd (DP.tE (DP.eBin DP.eqF (DP.eV 16) (DP.eC (.int 1)))) (DP.tE (DP.eBin DP.ltF (DP.eV 15) (DP.eBin DP.subF (DP.eCB DP.lenF (DP.aCons (DP.eV 8) DP.aNil)) (DP.eC (.int 1)))))) (DP.sPut DP.putF 14 (DP.eBin DP.subF (DP.eCB DP.lenF (DP.aCons (DP.eV 8) DP.aNil)) (DP.eC (.int 1))) (DP.eC (.str "give x"))) DP.sNext)
    (DP.sTry subx_InvalidRecipe 17 (DP.sSeq (DP.sDrop (DP.eCall m_read_recipe (DP.aCons (DP.eM1 DP.joinF (DP.eC (.str "\n")) (DP.eV 14)) DP.aNil)))
    (DP.sRet (DP.eC (.bl false)))) (DP.sIf (DP.tE (DP.eBin DP.neF (DP.eXf ["InvalidRecipe"] "line" 17) (DP.eV 15))) (DP.sRet (DP.eC (.bl false))) DP.sNext))))
    (DP.sSeq (DP.sSet 18 (DP.eLc [19] (DP.iR1 (DP.eCB DP.lenF (DP.aCons (DP.eV 4) DP.aNil))) (DP.gN 19) (DP.tE (DP.eBin DP.eqF (DP.eBin DP.ixF (DP.eV 5) (DP.eV 19)) (DP.eC (.str "number")))) (DP.eV 19)))
    (DP.sSeq (DP.sIf (DP.tE (DP.eBin DP.eqF (DP.eCB DP.lenF (DP.aCons (DP.eV 18) DP.aNil)) (DP.eC (.int 0)))) (DP.sRet (DP.eC (.bl true))) DP.sNext)
    (DP.sSeq (DP.sTryX subx_WrongKind (DP.sDrop (DP.eNewS m_Recipe__init [] (DP.aCons (DP.eM1 DP.joinF (DP.eC (.str "")) (DP.eV 2)) (DP.aCons (DP.eBin DP.addF (DP.eCall m__law_given (DP.aCons (DP.eV 4) DP.aNil)) (DP.eLst (DP.aCons (DP.eTup (DP.aCons (DP.eBin DP.ixF (DP.eLst (DP.aCons (DP.eC (.str "transpose")) (DP.aCons (DP.eC (.str "inverse")) (DP.aCons (DP.eC (.str "det")) DP.aNil)))) (DP.eBin DP.modF (DP.eCB DP.intF (DP.aCons (DP.eV 12) DP.aNil)) (DP.eC (.int 3)))) (DP.aCons (DP.eBin DP.ixF (DP.eV 18) (DP.eC (.int 0))) DP.aNil))) DP.aNil))) (DP.aCons (DP.eC (.int 0)) DP.aNil))))) (DP.sRet (DP.eC (.bl true))))
    (DP.sRet (DP.eC (.bl false))))))))))))))))))))))))))
def m_law : DP.Fn := DP.runDef 1 20 d_law
end DP

/-! DpEv: what denotations come to, rule by rule. -/
namespace DP
open PySem
def EV (e : E) (Γ : Env) (d : D) : Prop := e Γ = .ok (.val d) Γ
def AV (t : As) (Γ : Env) (ds : List D) : Prop := t Γ = .ok (ds.map Opd.val) Γ
def TV (c : T) (Γ : Env) (b : Bool) : Prop := c Γ = .ok b Γ
def SV (s : S) (Γ Γ' : Env) : Prop := s Γ = .next Γ'
section
variable {Γ Γ' Γ'' : Env} {a b : E} {t : As} {x y z d : D} {ds : List D} {c c2 : T} {s s2 : S} {f : D → D → Option Opd} {k k2 : Bool}
theorem ev_V {i : Nat} (h : Γ[i]? = some (.sh d)) : EV (eV i) Γ d := by
  unfold EV eV
  rw [h]
theorem ev_C : EV (eC d) Γ d := rfl
theorem ev_bin (ha : EV a Γ x) (hb : EV b Γ y) (h : f x y = some (.val z)) : EV (eBin f a b) Γ z := by
  unfold EV at ha hb ⊢
  unfold eBin
  rw [ha]
  show (b Γ).bind _ = _
  rw [hb]
  show opt (f x y) Γ = _
  rw [h]
  rfl
theorem ev_un {g : D → Option Opd} (ha : EV a Γ x) (h : g x = some (.val z)) : EV (eUn g a) Γ z := by
  unfold EV at ha ⊢
  unfold eUn
  rw [ha]
  show opt (g x) Γ = _
  rw [h]
  rfl
theorem av_nil : AV aNil Γ [] := rfl
theorem av_cons (ha : EV a Γ x) (ht : AV t Γ ds) : AV (aCons a t) Γ (x :: ds) := by
  unfold EV at ha
  unfold AV at ht ⊢
  unfold aCons
  rw [ha]
  show (t Γ).bind _ = _
  rw [ht]
  rfl
theorem gets_val : ∀ ds : List D, gets Γ (ds.map Opd.val) = some ds
  | [] => rfl
  | d :: r => by
    show (match Opd.get Γ (.val d), gets Γ (r.map Opd.val) with | some d, some ds => some (d :: ds) | _, _ => none) = _
    rw [gets_val r]
    rfl
theorem any_val : ∀ ds : List D, (ds.map Opd.val).any Opd.isOwn = false
  | [] => rfl
  | d :: r => any_val r
theorem ev_cb {g : List D → Option Opd} (ht : AV t Γ ds) (h : g ds = some (.val z)) : EV (eCB g t) Γ z := by
  unfold AV at ht
  unfold EV eCB
  rw [ht]
  show (match gets Γ (ds.map Opd.val) with | some ds => opt (g ds) Γ | none => .stuck) = _
  rw [gets_val]
  show opt (g ds) Γ = _
  rw [h]
  rfl
theorem ev_call {g : Fn} (ht : AV t Γ ds) (h : g ds = .ok z) : EV (eCall g t) Γ z := by
  unfold AV at ht
  unfold EV eCall
  rw [ht]
  show callR g (ds.map Opd.val) Γ = _
  unfold callR
  rw [gets_val]
  dsimp only
  rw [h]
  dsimp only
  rw [any_val]
  rfl
theorem call_exc {g : Fn} {cn : Str} (ht : AV t Γ ds) (h : g ds = .exc cn []) : eCall g t Γ = .exc cn [] Γ := by
  unfold AV at ht
  unfold eCall
  rw [ht]
  show callR g (ds.map Opd.val) Γ = _
  unfold callR
  rw [gets_val]
  dsimp only
  rw [h]
  rfl
theorem ev_and (ha : EV a Γ (.bl k)) (hb : k = true → EV b Γ (.bl k2)) : EV (eAnd a b) Γ (.bl (k && k2)) := by
  unfold EV at ha ⊢
  unfold eAnd
  rw [ha]
  cases k with
  | true => exact hb rfl
  | false => rfl
theorem tv_e (ha : EV a Γ (.bl k)) : TV (tE a) Γ k := by
  unfold EV at ha
  unfold TV tE
  rw [ha]
  rfl
theorem tv_tru (ha : EV a Γ x) (h : truth x = some k) : TV (tTru a) Γ k := by
  unfold EV at ha
  unfold TV tTru
  rw [ha]
  show opt (truth x) Γ = _
  rw [h]
  rfl
theorem tv_not (h : TV c Γ k) : TV (tNot c) Γ (!k) := by
  unfold TV at h ⊢
  unfold tNot
  rw [h]
  rfl
theorem tv_or (h : TV c Γ k) (h2 : k = false → TV c2 Γ k2) : TV (tOr c c2) Γ (k || k2) := by
  unfold TV at h ⊢
  unfold tOr
  rw [h]
  cases k with
  | true => rfl
  | false => exact h2 rfl
theorem tv_and (h : TV c Γ k) (h2 : k = true → TV c2 Γ k2) : TV (tAnd c c2) Γ (k && k2) := by
  unfold TV at h ⊢
  unfold tAnd
  rw [h]
  cases k with
  | true => exact h2 rfl
  | false => rfl
theorem sv_set {i : Nat} (ha : EV a Γ x) : SV (sSet i a) Γ (Γ.set i (.sh x)) := by
  unfold EV at ha
  unfold SV sSet
  rw [ha]
  rfl
theorem sv_seq (h : SV s Γ Γ') {r : SR} (h2 : s2 Γ' = r) : sSeq s s2 Γ = r := by
  unfold SV at h
  unfold sSeq
  rw [h]
  exact h2
theorem sv_if (h : TV c Γ k) {r : SR} (h2 : (if k = true then s Γ else s2 Γ) = r) : sIf c s s2 Γ = r := by
  unfold TV at h
  unfold sIf
  rw [h]
  exact h2
theorem sv_then (h : TV c Γ true) {r : SR} (h2 : s Γ = r) : sIf c s s2 Γ = r := sv_if h (by rw [if_pos rfl]; exact h2)
theorem sv_else (h : TV c Γ false) {r : SR} (h2 : s2 Γ = r) : sIf c s s2 Γ = r := sv_if h (by rw [if_neg Bool.false_ne_true]; exact h2)
theorem s_ret (ha : EV a Γ x) : sRet a Γ = .ret x := by
  unfold EV at ha
  unfold sRet
  rw [ha]
  rfl
theorem s_drop (ha : EV a Γ x) : SV (sDrop a) Γ Γ := by
  unfold EV at ha
  unfold SV sDrop
  rw [ha]
  rfl
theorem drop_exc {cn : Str} (ha : a Γ = .exc cn [] Γ) : sDrop a Γ = .exc cn [] Γ := by
  unfold sDrop
  rw [ha]
  rfl
theorem seq_exc {cn : Str} (h : s Γ = .exc cn [] Γ) : sSeq s s2 Γ = .exc cn [] Γ := by
  unfold sSeq
  rw [h]
end
theorem run_ret {np n : Nat} {b : S} {ds : List D} {d : D} (hl : ds.length = np) (h : b (startEnv n ds) = .ret d) : runDef np n b ds = .ok d := by
  unfold runDef
  rw [if_pos hl, h]
theorem run_exc {np n : Nat} {b : S} {ds : List D} {c : Str} {Γ : Env} (hl : ds.length = np) (h : b (startEnv n ds) = .exc c [] Γ) : runDef np n b ds = .exc c [] := by
  unfold runDef
  rw [if_pos hl, h]
theorem strs_val : ∀ ds : List D, strsD (ds.map Opd.val) = some ds
  | [] => rfl
  | d :: r => by
    show (match Opd.str (.val d), strsD (r.map Opd.val) with | some d, some ds => some (d :: ds) | _, _ => none) = _
    rw [strs_val r]
    rfl
theorem ev_mut {f : D → List D → Option (D × D)} {i : Nat} {t : As} {Γ Γ1 : Env} {d d' v : D} {d0 ds : List D} (h0 : Γ[i]? = some (.ow (.lst d0))) (ht : t Γ = .ok (ds.map Opd.val) Γ1) (h1 : Γ1[i]? = some (.ow d)) (hf : f d ds = some (v, d')) : eMut f i t Γ = .ok (.val v) (Γ1.set i (.ow d')) := by
  unfold eMut
  rw [h0, ht]
  show (match strsD (ds.map Opd.val), Γ1[i]? with
    | some ds, some (.ow d) => match f d ds with
      | some (v, d') => R.ok (Opd.val v) (Γ1.set i (.ow d'))
      | none => .stuck
    | _, _ => .stuck) = _
  rw [strs_val, h1]
  dsimp only
  rw [hf]
theorem ev_rg {f : Int → Int → Option Opd} {a b : E} {Γ : Env} {i j : Int} {o : Opd} (ha : EV a Γ (.int i)) (hb : EV b Γ (.int j)) (h : f i j = some o) : eRg f a b Γ = .ok o Γ := by
  unfold EV at ha hb
  unfold eRg
  rw [ha]
  show (b Γ).bind _ = _
  rw [hb]
  show opt (f i j) Γ = _
  rw [h]
  rfl
theorem r1_ok {a : E} {Γ : Env} {j : Int} (ha : EV a Γ (.int j)) (h : inLine j = true) : iR1 a Γ = .ok (zInts 0 j.toNat) Γ := by
  unfold EV at ha
  unfold iR1
  rw [ha]
  show (if inLine j = true then R.ok (zInts 0 j.toNat) Γ else .stuck) = _
  rw [if_pos h]
theorem set_fresh {e : E} {i : Nat} {Γ Γ1 : Env} {d : D} (h : e Γ = .ok (.fresh d) Γ1) : sSet i e Γ = .next (Γ1.set i (.ow d)) := by
  unfold sSet
  rw [h]
  rfl
theorem for_ok {it : It} {tg : Tg} {b : S} {Γ Γ1 : Env} {xs : List D} (h : it Γ = .ok xs Γ1) : sFor it tg b Γ = forLoop tg b xs Γ1 := by
  unfold sFor
  rw [h]
  rfl
/-! plain data -/
theorem eqDs_ints : ∀ l : List Int, eqDs (l.map D.int) (l.map D.int) = true
  | [] => by simp [eqDs]
  | i :: r => by
    show eqDs (D.int i :: r.map D.int) (D.int i :: r.map D.int) = true
    unfold eqDs
    rw [eqDs_ints r]
    simp [eqD]
theorem plains_ints (n : Nat) : ∀ l : List Int, plains n (l.map D.int) = true
  | [] => by simp [plains]
  | i :: r => by
    show plains n (D.int i :: r.map D.int) = true
    unfold plains
    rw [plains_ints n r]
    simp [plain]
theorem eqF_ints (l : List Int) : eqF (.tup (l.map D.int)) (.tup (l.map D.int)) = some (.val (.bl true)) := by
  unfold eqF
  have h1 : plain 20 (.tup (l.map D.int)) = true := by
    show plain (19 + 1) (.tup (l.map D.int)) = true
    unfold plain
    exact plains_ints 19 l
  have h2 : eqD (.tup (l.map D.int)) (.tup (l.map D.int)) = true := by
    unfold eqD
    exact eqDs_ints l
  rw [h1, h2]
  rfl
theorem eqF_int (i j : Int) : eqF (.int i) (.int j) = some (.val (.bl (decide (i = j)))) := by
  unfold eqF
  simp only [plain, eqD, Bool.and_self, if_true]
  rfl
end DP

/-! DpPure1: comprehensions whose test and element are known by the member alone. -/
namespace DP
open PySem
theorem lc_pure {j : Nat} {c : T} {e : E} {Γ : Env} (pc : D → Bool) (pf : D → D) (hΓ : Γ.set j .no = Γ) : ∀ (xs acc : List D), (∀ d ∈ xs, TV c (Γ.set j (.sh d)) (pc d)) → (∀ d ∈ xs, pc d = true → ∃ o, e (Γ.set j (.sh d)) = .ok o (Γ.set j (.sh d)) ∧ o.str = some (pf d)) →
    acc.length + xs.length ≤ 1000000 → lcLoop [j] (gN j) c e xs Γ acc = some (acc ++ (xs.filter pc).map pf, Γ)
  | [], acc, _, _, _ => by
    show some (acc, Γ) = some (acc ++ [], Γ)
    rw [List.append_nil]
  | d :: r, acc, hc, he, hl => by
    have hl : acc.length + (r.length + 1) ≤ 1000000 := hl
    have hw : wipe (Γ.set j (.sh d)) [j] = Γ := by
      show (Γ.set j (.sh d)).set j .no = Γ
      rw [List.set_set, hΓ]
    have h1 : c (Γ.set j (.sh d)) = .ok (pc d) (Γ.set j (.sh d)) := hc d List.mem_cons_self
    unfold lcLoop
    show (match c (Γ.set j (.sh d)) with
      | .ok true Γ2 => (match e Γ2 with
        | .ok o Γ3 => (match o.str with
          | some x => if acc.length < 1000000 then lcLoop [j] (gN j) c e r (wipe Γ3 [j]) (acc ++ [x]) else none
          | none => none)
        | _ => none)
      | .ok false Γ2 => lcLoop [j] (gN j) c e r (wipe Γ2 [j]) acc
      | _ => none) = _
    rw [h1]
    cases hp : pc d with
    | false =>
      dsimp only
      rw [hw, lc_pure pc pf hΓ r acc (fun d hd => hc d (List.mem_cons_of_mem _ hd)) (fun d hd => he d (List.mem_cons_of_mem _ hd)) (by omega), List.filter_cons_of_neg (by rw [hp]; exact Bool.false_ne_true)]
    | true =>
      obtain ⟨o, h2, h3⟩ := he d List.mem_cons_self hp
      dsimp only
      rw [h2]
      dsimp only
      rw [h3]
      dsimp only
      rw [if_pos (by omega), hw, lc_pure pc pf hΓ r (acc ++ [pf d]) (fun d hd => hc d (List.mem_cons_of_mem _ hd)) (fun d hd => he d (List.mem_cons_of_mem _ hd)) (by rw [List.length_append]; show acc.length + 1 + r.length ≤ _; omega), List.filter_cons_of_pos hp, List.map_cons, List.append_assoc]
      rfl
theorem elc_pure {i j : Nat} {c : T} {e : E} {Γ : Env} {xs : List D} (pc : D → Bool) (pf : D → D) (hi : Γ[i]? = some (.sh (.lst xs))) (hl : xs.length ≤ 1000000) (hc : ∀ d ∈ xs, TV c ((Γ.set j .no).set j (.sh d)) (pc d)) (he : ∀ d ∈ xs, pc d = true → ∃ o, e ((Γ.set j .no).set j (.sh d)) = .ok o ((Γ.set j .no).set j (.sh d)) ∧ o.str = some (pf d)) :
    eLc [j] (iE (eV i)) (gN j) c e Γ = .ok (.fresh (.lst ((xs.filter pc).map pf))) (Γ.set j .no) := by
  have h1 : iE (eV i) Γ = .ok xs Γ := by
    have := ev_V (Γ := Γ) hi
    unfold EV at this
    unfold iE
    rw [this]
    rfl
  unfold eLc
  rw [h1]
  show (match lcLoop [j] (gN j) c e xs (wipe Γ [j]) [] with | some (ds, Γ2) => R.ok (Opd.fresh (.lst ds)) Γ2 | none => .stuck) = _
  have hw : wipe Γ [j] = Γ.set j .no := rfl
  rw [hw, lc_pure pc pf (by rw [List.set_set]) xs [] hc he (by simpa using hl)]
  rfl
end DP

namespace DP
open PySem
/-! DpX: denotations worked out by simp. -/
theorem x_sh {Γ : Env} {i : Nat} {d : D} (h : Γ[i]? = some (.sh d)) : eV i Γ = .ok (.val d) Γ := by unfold eV; rw [h]
theorem x_ow {Γ : Env} {i : Nat} {d : D} (h : Γ[i]? = some (.ow d)) : eV i Γ = .ok (.own i) Γ := by unfold eV; rw [h]
theorem x_toSB {α : Type} {a : α} {Γ : Env} {k : α → Env → SR} : (R.ok a Γ).toSB k = k a Γ := rfl
theorem x_toSBx {α : Type} {c : Str} {fs : List D} {Γ : Env} {k : α → Env → SR} : (R.exc c fs Γ : R α).toSB k = .exc c fs Γ := rfl
theorem x_getv {Γ : Env} {d : D} : (Opd.val d).get Γ = some d := rfl
theorem x_getf {Γ : Env} {d : D} : (Opd.fresh d).get Γ = some d := rfl
theorem x_geto {Γ : Env} {i : Nat} : (Opd.own i).get Γ = slotD Γ[i]? := rfl
theorem x_strv {d : D} : (Opd.val d).str = some d := rfl
theorem x_strf {d : D} : (Opd.fresh d).str = some d := rfl
theorem x_gets0 {Γ : Env} : gets Γ [] = some [] := rfl
theorem x_gets1 {Γ : Env} {o : Opd} {r : List Opd} {d : D} {ds : List D} (h : o.get Γ = some d) (hr : gets Γ r = some ds) : gets Γ (o :: r) = some (d :: ds) := by
  show (match o.get Γ, gets Γ r with | some d, some ds => some (d :: ds) | _, _ => none) = _
  rw [h, hr]
theorem x_strs0 : strsD [] = some [] := rfl
theorem x_strs1 {o : Opd} {r : List Opd} {d : D} {ds : List D} (h : o.str = some d) (hr : strsD r = some ds) : strsD (o :: r) = some (d :: ds) := by
  show (match o.str, strsD r with | some d, some ds => some (d :: ds) | _, _ => none) = _
  rw [h, hr]
theorem x_bin {f : D → D → Option Opd} {a b : E} {Γ Γ1 Γ2 : Env} {x y o : Opd} {dx dy : D} (ha : a Γ = .ok x Γ1) (hb : b Γ1 = .ok y Γ2) (hx : x.get Γ2 = some dx) (hy : y.get Γ2 = some dy) (hf : f dx dy = some o) : eBin f a b Γ = .ok o Γ2 := by
  unfold eBin
  rw [ha]
  show (b Γ1).bind _ = _
  rw [hb]
  show (match x.get Γ2, y.get Γ2 with | some dx, some dy => opt (f dx dy) Γ2 | _, _ => .stuck) = _
  rw [hx, hy]
  show opt (f dx dy) Γ2 = _
  rw [hf]
  rfl
theorem x_un {f : D → Option Opd} {a : E} {Γ Γ1 : Env} {x o : Opd} {dx : D} (ha : a Γ = .ok x Γ1) (hx : x.get Γ1 = some dx) (hf : f dx = some o) : eUn f a Γ = .ok o Γ1 := by
  unfold eUn
  rw [ha]
  show (match x.get Γ1 with | some dx => opt (f dx) Γ1 | none => .stuck) = _
  rw [hx]
  show opt (f dx) Γ1 = _
  rw [hf]
  rfl
theorem x_nil {Γ : Env} : aNil Γ = .ok [] Γ := rfl
theorem x_cons {a : E} {r : As} {Γ Γ1 Γ2 : Env} {x : Opd} {xs : List Opd} (ha : a Γ = .ok x Γ1) (hr : r Γ1 = .ok xs Γ2) : aCons a r Γ = .ok (x :: xs) Γ2 := by
  unfold aCons
  rw [ha]
  show (r Γ1).bind _ = _
  rw [hr]
  rfl
theorem x_cb {f : List D → Option Opd} {t : As} {Γ Γ1 : Env} {os : List Opd} {ds : List D} {o : Opd} (ht : t Γ = .ok os Γ1) (hg : gets Γ1 os = some ds) (hf : f ds = some o) : eCB f t Γ = .ok o Γ1 := by
  unfold eCB
  rw [ht]
  show (match gets Γ1 os with | some ds => opt (f ds) Γ1 | none => .stuck) = _
  rw [hg]
  show opt (f ds) Γ1 = _
  rw [hf]
  rfl
theorem x_cbs {f : List D → Option Opd} {t : As} {Γ Γ1 : Env} {os : List Opd} {ds : List D} {o : Opd} (ht : t Γ = .ok os Γ1) (hg : strsD os = some ds) (hf : f ds = some o) : eCBS f t Γ = .ok o Γ1 := by
  unfold eCBS
  rw [ht]
  show (match strsD os with | some ds => opt (f ds) Γ1 | none => .stuck) = _
  rw [hg]
  show opt (f ds) Γ1 = _
  rw [hf]
  rfl
theorem x_call {f : Fn} {t : As} {Γ Γ1 : Env} {os : List Opd} {ds : List D} {d : D} (ht : t Γ = .ok os Γ1) (hg : gets Γ1 os = some ds) (hf : f ds = .ok d) (hm : (os.any Opd.isOwn = false ∨ noMut d = true) ∨ (noMutI d && noOwnIns Γ1) = true) : eCall f t Γ = .ok (.val d) Γ1 := by
  unfold eCall
  rw [ht]
  show callR f os Γ1 = _
  unfold callR
  rw [hg]
  dsimp only
  rw [hf]
  dsimp only
  rcases hm with (h | h) | h
  · rw [h]; rfl
  · rw [h]; simp
  · rw [h]; simp
theorem x_callX {f : Fn} {t : As} {Γ Γ1 : Env} {os : List Opd} {ds : List D} {c : Str} {fs : List D} (ht : t Γ = .ok os Γ1) (hg : gets Γ1 os = some ds) (hf : f ds = .exc c fs) (hm : (fs.isEmpty || !os.any Opd.isOwn || noMutX fs) = true) : eCall f t Γ = .exc c fs Γ1 := by
  unfold eCall
  rw [ht]
  show callR f os Γ1 = _
  unfold callR
  rw [hg]
  dsimp only
  rw [hf]
  dsimp only
  rw [if_pos hm]
theorem x_tup {t : As} {Γ Γ1 : Env} {os : List Opd} {ds : List D} (ht : t Γ = .ok os Γ1) (hg : strsD os = some ds) (hl : ds.length ≤ 1000000) : eTup t Γ = .ok (.val (.tup ds)) Γ1 := by
  unfold eTup
  rw [ht]
  show (match strsD os with | some ds => if ds.length ≤ 1000000 then R.ok (Opd.val (.tup ds)) Γ1 else .stuck | none => .stuck) = _
  rw [hg]
  dsimp only
  rw [if_pos hl]
theorem x_lst {t : As} {Γ Γ1 : Env} {os : List Opd} {ds : List D} (ht : t Γ = .ok os Γ1) (hg : strsD os = some ds) (hl : ds.length ≤ 1000000) : eLst t Γ = .ok (.fresh (.lst ds)) Γ1 := by
  unfold eLst
  rw [ht]
  show (match strsD os with | some ds => if ds.length ≤ 1000000 then R.ok (Opd.fresh (.lst ds)) Γ1 else .stuck | none => .stuck) = _
  rw [hg]
  dsimp only
  rw [if_pos hl]
theorem x_if {c : T} {a b : E} {Γ Γ1 : Env} {k : Bool} {r : R Opd} (hc : c Γ = .ok k Γ1) (h : (if k = true then a Γ1 else b Γ1) = r) : eIf c a b Γ = r := by
  unfold eIf
  rw [hc]
  exact h
theorem x_tE {a : E} {Γ Γ1 : Env} {k : Bool} (ha : a Γ = .ok (.val (.bl k)) Γ1) : tE a Γ = .ok k Γ1 := by
  unfold tE
  rw [ha]
  rfl
theorem x_tTru {a : E} {Γ Γ1 : Env} {x : Opd} {d : D} {k : Bool} (ha : a Γ = .ok x Γ1) (hx : x.get Γ1 = some d) (ht : truth d = some k) : tTru a Γ = .ok k Γ1 := by
  unfold tTru
  rw [ha]
  show (match x.get Γ1 with | some d => opt (truth d) Γ1 | none => .stuck) = _
  rw [hx]
  show opt (truth d) Γ1 = _
  rw [ht]
  rfl
theorem x_tNot {a : T} {Γ Γ1 : Env} {k : Bool} (ha : a Γ = .ok k Γ1) : tNot a Γ = .ok (!k) Γ1 := by
  unfold tNot
  rw [ha]
  rfl
theorem x_tAnd {a b : T} {Γ Γ1 : Env} {k : Bool} {r : R Bool} (ha : a Γ = .ok k Γ1) (h : (if k = true then b Γ1 else .ok false Γ1) = r) : tAnd a b Γ = r := by
  unfold tAnd
  rw [ha]
  exact h
theorem x_tOr {a b : T} {Γ Γ1 : Env} {k : Bool} {r : R Bool} (ha : a Γ = .ok k Γ1) (h : (if k = true then .ok true Γ1 else b Γ1) = r) : tOr a b Γ = r := by
  unfold tOr
  rw [ha]
  exact h
theorem x_and {a b : E} {Γ Γ1 : Env} {k : Bool} {r : R Opd} (ha : a Γ = .ok (.val (.bl k)) Γ1) (h : (if k = true then b Γ1 else .ok (.val (.bl false)) Γ1) = r) : eAnd a b Γ = r := by
  unfold eAnd
  rw [ha]
  cases k <;> exact h
theorem x_not {a : E} {Γ Γ1 : Env} {k : Bool} (ha : a Γ = .ok (.val (.bl k)) Γ1) : eNot a Γ = .ok (.val (.bl !k)) Γ1 := by
  unfold eNot
  rw [ha]
  rfl
theorem x_seq {a b : S} {Γ Γ1 : Env} {r : SR} (ha : a Γ = .next Γ1) (h : b Γ1 = r) : sSeq a b Γ = r := by
  unfold sSeq
  rw [ha]
  exact h
theorem x_seqX {a b : S} {Γ Γ1 : Env} {c : Str} {fs : List D} (ha : a Γ = .exc c fs Γ1) : sSeq a b Γ = .exc c fs Γ1 := by
  unfold sSeq
  rw [ha]
theorem x_seqR {a b : S} {Γ : Env} {d : D} (ha : a Γ = .ret d) : sSeq a b Γ = .ret d := by
  unfold sSeq
  rw [ha]
theorem x_setv {i : Nat} {e : E} {Γ Γ1 : Env} {d : D} (h : e Γ = .ok (.val d) Γ1) : sSet i e Γ = .next (Γ1.set i (.sh d)) := by
  unfold sSet
  rw [h]
  rfl
theorem x_setf {i : Nat} {e : E} {Γ Γ1 : Env} {d : D} (h : e Γ = .ok (.fresh d) Γ1) : sSet i e Γ = .next (Γ1.set i (.ow d)) := by
  unfold sSet
  rw [h]
  rfl
theorem x_drop {e : E} {Γ Γ1 : Env} {o : Opd} (h : e Γ = .ok o Γ1) : sDrop e Γ = .next Γ1 := by
  unfold sDrop
  rw [h]
  rfl
theorem x_dropX {e : E} {Γ Γ1 : Env} {c : Str} {fs : List D} (h : e Γ = .exc c fs Γ1) : sDrop e Γ = .exc c fs Γ1 := by
  unfold sDrop
  rw [h]
  rfl
theorem x_ret {e : E} {Γ Γ1 : Env} {o : Opd} {d : D} (h : e Γ = .ok o Γ1) (hd : o.get Γ1 = some d) : sRet e Γ = .ret d := by
  unfold sRet
  rw [h]
  show (match o.get Γ1 with | some d => SR.ret d | none => .stuck) = _
  rw [hd]
theorem x_retX {e : E} {Γ Γ1 : Env} {c : Str} {fs : List D} (h : e Γ = .exc c fs Γ1) : sRet e Γ = .exc c fs Γ1 := by
  unfold sRet
  rw [h]
  rfl
theorem x_sIf {c : T} {a b : S} {Γ Γ1 : Env} {k : Bool} {r : SR} (hc : c Γ = .ok k Γ1) (h : (if k = true then a Γ1 else b Γ1) = r) : sIf c a b Γ = r := by
  unfold sIf
  rw [hc]
  exact h
theorem x_raiseX {c f : Str} {e : E} {Γ Γ1 : Env} {o : Opd} {d : D} (h : e Γ = .ok o Γ1) (hs : o.str = some d) : sRaiseX c f e Γ = .exc c [.ins "" [(f, d)]] Γ1 := by
  unfold sRaiseX
  rw [h]
  show (match o.str with | some d => SR.exc c [.ins "" [(f, d)]] Γ1 | none => .stuck) = _
  rw [hs]
theorem x_m1 {f : Str → D → Option Opd} {a b : E} {Γ Γ1 Γ2 : Env} {x y o : Opd} {s : Str} {dy : D} (ha : a Γ = .ok x Γ1) (hx : x.str = some (.str s)) (hb : b Γ1 = .ok y Γ2) (hy : y.get Γ2 = some dy) (hf : f s dy = some o) : eM1 f a b Γ = .ok o Γ2 := by
  unfold eM1
  rw [ha]
  show (match x.str with | some (.str s) => (b Γ1).bind fun y Γ2 => (match y.get Γ2 with | some dy => opt (f s dy) Γ2 | none => .stuck) | _ => .stuck) = _
  rw [hx]
  dsimp only
  rw [hb]
  show (match y.get Γ2 with | some dy => opt (f s dy) Γ2 | none => .stuck) = _
  rw [hy]
  show opt (f s dy) Γ2 = _
  rw [hf]
  rfl
theorem x_mut {f : D → List D → Option (D × D)} {i : Nat} {t : As} {Γ Γ1 : Env} {os : List Opd} {d0 ds : List D} {d v d' : D} (h0 : Γ[i]? = some (.ow (.lst d0))) (ht : t Γ = .ok os Γ1) (hs : strsD os = some ds) (h1 : Γ1[i]? = some (.ow d)) (hf : f d ds = some (v, d')) : eMut f i t Γ = .ok (.val v) (Γ1.set i (.ow d')) := by
  unfold eMut
  rw [h0, ht]
  show (match strsD os, Γ1[i]? with
    | some ds, some (.ow d) => match f d ds with
      | some (v, d') => R.ok (Opd.val v) (Γ1.set i (.ow d'))
      | none => .stuck
    | _, _ => .stuck) = _
  rw [hs, h1]
  dsimp only
  rw [hf]
theorem x_mutX {f : D → List D → Option (D × D)} {i : Nat} {t : As} {Γ Γ1 : Env} {d0 : List D} {c : Str} {fs : List D} (h0 : Γ[i]? = some (.ow (.lst d0))) (ht : t Γ = .exc c fs Γ1) : eMut f i t Γ = .exc c fs Γ1 := by
  unfold eMut
  rw [h0, ht]
  rfl
theorem x_consX {a : E} {r : As} {Γ Γ1 : Env} {c : Str} {fs : List D} (ha : a Γ = .exc c fs Γ1) : aCons a r Γ = .exc c fs Γ1 := by
  unfold aCons
  rw [ha]
  rfl
theorem x_consX2 {a : E} {r : As} {Γ Γ1 Γ2 : Env} {x : Opd} {c : Str} {fs : List D} (ha : a Γ = .ok x Γ1) (hr : r Γ1 = .exc c fs Γ2) : aCons a r Γ = .exc c fs Γ2 := by
  unfold aCons
  rw [ha]
  show (r Γ1).bind _ = _
  rw [hr]
  rfl
theorem x_tupX {t : As} {Γ Γ1 : Env} {c : Str} {fs : List D} (ht : t Γ = .exc c fs Γ1) : eTup t Γ = .exc c fs Γ1 := by
  unfold eTup
  rw [ht]
  rfl
theorem x_sl {f : D → Option Int → Option Int → Option Opd} {a : E} {lo hi : Env → R (Option Int)} {Γ Γ1 Γ2 Γ3 : Env} {x o : Opd} {l h : Option Int} {dx : D} (ha : a Γ = .ok x Γ1) (hl : lo Γ1 = .ok l Γ2) (hh : hi Γ2 = .ok h Γ3) (hx : x.get Γ3 = some dx) (hf : f dx l h = some o) : eSl f a lo hi Γ = .ok o Γ3 := by
  unfold eSl
  rw [ha]
  show (lo Γ1).bind _ = _
  rw [hl]
  show (hi Γ2).bind _ = _
  rw [hh]
  show (match x.get Γ3 with | some dx => opt (f dx l h) Γ3 | none => .stuck) = _
  rw [hx]
  show opt (f dx l h) Γ3 = _
  rw [hf]
  rfl
theorem x_pE {a : E} {Γ Γ1 : Env} {i : Int} (ha : a Γ = .ok (.val (.int i)) Γ1) : pE a Γ = .ok (some i) Γ1 := by
  unfold pE
  rw [ha]
  rfl
theorem x_pNo {Γ : Env} : pNo Γ = .ok none Γ := rfl
theorem x_run {np n : Nat} {b : S} {ds : List D} {r : Res} (hl : ds.length = np) (h : (match b (startEnv n ds) with | .next _ => Res.ok .non | .ret d => .ok d | .exc c fs _ => .exc c fs | _ => .stuck) = r) : runDef np n b ds = r := by
  unfold runDef
  rw [if_pos hl]
  exact h
theorem run_ret' {np n : Nat} {b : S} {ds : List D} {d : D} (hl : ds.length = np) (h : b (startEnv n ds) = .ret d) : runDef np n b ds = .ok d := run_ret hl h
theorem run_excX {np n : Nat} {b : S} {ds : List D} {c : Str} {fs : List D} {Γ : Env} (hl : ds.length = np) (h : b (startEnv n ds) = .exc c fs Γ) : runDef np n b ds = .exc c fs := by
  unfold runDef
  rw [if_pos hl, h]
theorem x_gN {i : Nat} {d : D} {Γ : Env} : gN i d Γ = some (Γ.set i (.sh d)) := rfl
theorem x_for {it : It} {tg : Tg} {b : S} {Γ Γ1 : Env} {xs : List D} {r : SR} (h : it Γ = .ok xs Γ1) (hr : forLoop tg b xs Γ1 = r) : sFor it tg b Γ = r := by
  unfold sFor
  rw [h]
  exact hr
theorem f_nil {tg : Tg} {b : S} {Γ : Env} : forLoop tg b [] Γ = .next Γ := rfl
theorem f_next {tg : Tg} {b : S} {Γ Γ1 Γ2 : Env} {d : D} {r : List D} {z : SR} (h1 : tg d Γ = some Γ1) (h2 : b Γ1 = .next Γ2) (h3 : forLoop tg b r Γ2 = z) : forLoop tg b (d :: r) Γ = z := by
  show (match tg d Γ with | none => SR.stuck | some Γ1 => match b Γ1 with | .next Γ2 => forLoop tg b r Γ2 | .cont Γ2 => forLoop tg b r Γ2 | .brk Γ2 => .next Γ2 | .ret d => .ret d | .exc c fs Γ2 => .exc c fs Γ2 | .stuck => .stuck) = _
  rw [h1]
  dsimp only
  rw [h2]
  exact h3
theorem f_ret {tg : Tg} {b : S} {Γ Γ1 : Env} {d x : D} {r : List D} (h1 : tg d Γ = some Γ1) (h2 : b Γ1 = .ret x) : forLoop tg b (d :: r) Γ = .ret x := by
  show (match tg d Γ with | none => SR.stuck | some Γ1 => match b Γ1 with | .next Γ2 => forLoop tg b r Γ2 | .cont Γ2 => forLoop tg b r Γ2 | .brk Γ2 => .next Γ2 | .ret d => .ret d | .exc c fs Γ2 => .exc c fs Γ2 | .stuck => .stuck) = _
  rw [h1]
  dsimp only
  rw [h2]
theorem f_exc {tg : Tg} {b : S} {Γ Γ1 Γ2 : Env} {d : D} {c : Str} {fs : List D} {r : List D} (h1 : tg d Γ = some Γ1) (h2 : b Γ1 = .exc c fs Γ2) : forLoop tg b (d :: r) Γ = .exc c fs Γ2 := by
  show (match tg d Γ with | none => SR.stuck | some Γ1 => match b Γ1 with | .next Γ2 => forLoop tg b r Γ2 | .cont Γ2 => forLoop tg b r Γ2 | .brk Γ2 => .next Γ2 | .ret d => .ret d | .exc c fs Γ2 => .exc c fs Γ2 | .stuck => .stuck) = _
  rw [h1]
  dsimp only
  rw [h2]
theorem x_iE {a : E} {Γ Γ1 : Env} {x : Opd} {d : D} {xs : List D} (ha : a Γ = .ok x Γ1) (hx : x.get Γ1 = some d) (hi : items d = some xs) : iE a Γ = .ok xs (freeze Γ1 x) := by
  unfold iE
  rw [ha]
  show (match x.get Γ1 with | some d => (match items d with | some xs => R.ok xs (freeze Γ1 x) | none => .stuck) | none => .stuck) = _
  rw [hx]
  dsimp only
  rw [hi]
theorem x_iR1 {a : E} {Γ Γ1 : Env} {j : Int} (ha : a Γ = .ok (.val (.int j)) Γ1) (h : inLine j = true) : iR1 a Γ = .ok (zInts 0 j.toNat) Γ1 := by
  unfold iR1
  rw [ha]
  show (if inLine j = true then R.ok (zInts 0 j.toNat) Γ1 else .stuck) = _
  rw [if_pos h]

/-! DpXt: the tactic dx works a denotation out; facts that it cannot see are taken from the context. -/
theorem x_sIfT {c : T} {a b : S} {Γ Γ1 : Env} {r : SR} (hc : c Γ = .ok true Γ1) (h : a Γ1 = r) : sIf c a b Γ = r := x_sIf hc (by rw [if_pos rfl]; exact h)
theorem x_sIfF {c : T} {a b : S} {Γ Γ1 : Env} {r : SR} (hc : c Γ = .ok false Γ1) (h : b Γ1 = r) : sIf c a b Γ = r := x_sIf hc (by rw [if_neg Bool.false_ne_true]; exact h)
theorem x_eIfT {c : T} {a b : E} {Γ Γ1 : Env} {r : R Opd} (hc : c Γ = .ok true Γ1) (h : a Γ1 = r) : eIf c a b Γ = r := x_if hc (by rw [if_pos rfl]; exact h)
theorem x_eIfF {c : T} {a b : E} {Γ Γ1 : Env} {r : R Opd} (hc : c Γ = .ok false Γ1) (h : b Γ1 = r) : eIf c a b Γ = r := x_if hc (by rw [if_neg Bool.false_ne_true]; exact h)
theorem x_tAndF {a b : T} {Γ Γ1 : Env} (ha : a Γ = .ok false Γ1) : tAnd a b Γ = .ok false Γ1 := x_tAnd ha (by rw [if_neg Bool.false_ne_true])
theorem x_tAndT {a b : T} {Γ Γ1 : Env} {r : R Bool} (ha : a Γ = .ok true Γ1) (h : b Γ1 = r) : tAnd a b Γ = r := x_tAnd ha (by rw [if_pos rfl]; exact h)
theorem x_tOrT {a b : T} {Γ Γ1 : Env} (ha : a Γ = .ok true Γ1) : tOr a b Γ = .ok true Γ1 := x_tOr ha (by rw [if_pos rfl])
theorem x_tOrF {a b : T} {Γ Γ1 : Env} {r : R Bool} (ha : a Γ = .ok false Γ1) (h : b Γ1 = r) : tOr a b Γ = r := x_tOr ha (by rw [if_neg Bool.false_ne_true]; exact h)
theorem x_tNotT {a : T} {Γ Γ1 : Env} (ha : a Γ = .ok false Γ1) : tNot a Γ = .ok true Γ1 := x_tNot ha
theorem x_tNotF {a : T} {Γ Γ1 : Env} (ha : a Γ = .ok true Γ1) : tNot a Γ = .ok false Γ1 := x_tNot ha
theorem x_andF {a b : E} {Γ Γ1 : Env} (ha : a Γ = .ok (.val (.bl false)) Γ1) : eAnd a b Γ = .ok (.val (.bl false)) Γ1 := x_and ha (by rw [if_neg Bool.false_ne_true])
theorem x_andT {a b : E} {Γ Γ1 : Env} {r : R Opd} (ha : a Γ = .ok (.val (.bl true)) Γ1) (h : b Γ1 = r) : eAnd a b Γ = r := x_and ha (by rw [if_pos rfl]; exact h)
theorem x_next {Γ : Env} : sNext Γ = .next Γ := rfl
theorem x_raise {c : Str} {Γ : Env} : sRaise c Γ = .exc c [] Γ := rfl
theorem x_eC {d : D} {Γ : Env} : eC d Γ = .ok (.val d) Γ := rfl
theorem x_lt {i j : Int} {k : Bool} (h : decide (i < j) = k) : ltF (.int i) (.int j) = some (.val (.bl k)) := by rw [← h]; rfl
theorem x_le {i j : Int} {k : Bool} (h : decide (i ≤ j) = k) : leF (.int i) (.int j) = some (.val (.bl k)) := by rw [← h]; rfl
theorem x_gt {i j : Int} {k : Bool} (h : decide (j < i) = k) : gtF (.int i) (.int j) = some (.val (.bl k)) := by rw [← h]; rfl
theorem x_eqi {i j : Int} {k : Bool} (h : decide (i = j) = k) : eqF (.int i) (.int j) = some (.val (.bl k)) := by rw [eqF_int, h]
theorem neF_int (i j : Int) : neF (.int i) (.int j) = some (.val (.bl (!decide (i = j)))) := by
  unfold neF
  simp only [plain, eqD, Bool.and_self, if_true]
  rfl
theorem x_nei {i j : Int} {k : Bool} (h : (!decide (i = j)) = k) : neF (.int i) (.int j) = some (.val (.bl k)) := by rw [neF_int, h]
def okS (s : Str) : Bool := s.cps.all fun c => decide (c < 1114112)
theorem x_eqs {x y : Str} {k : Bool} (hx : okS x = true) (hy : okS y = true) (h : decide (x = y) = k) : eqF (.str x) (.str y) = some (.val (.bl k)) := by
  unfold eqF
  have p : ∀ {z : Str}, okS z = true → plain 20 (.str z) = true := fun h => by unfold plain; exact h
  rw [p hx, p hy]
  have e : eqD (.str x) (.str y) = decide (x = y) := by unfold eqD; by_cases h : x = y <;> simp [h]
  rw [e, h]
  rfl
theorem x_nes {x y : Str} {k : Bool} (hx : okS x = true) (hy : okS y = true) (h : (!decide (x = y)) = k) : neF (.str x) (.str y) = some (.val (.bl k)) := by
  unfold neF
  have p : ∀ {z : Str}, okS z = true → plain 20 (.str z) = true := fun h => by unfold plain; exact h
  rw [p hx, p hy]
  have e : eqD (.str x) (.str y) = decide (x = y) := by unfold eqD; by_cases h : x = y <;> simp [h]
  rw [e, h]
  rfl
theorem x_in {x : D} {ys : List D} {k : Bool} (hf : (flat x && ys.all flat) = true) (h : (ys.any fun y => eqD y x) = k) : inF x (.tup ys) = some (.val (.bl k)) := by
  show (if (flat x && ys.all flat) = true then ov (.bl (ys.any fun y => eqD y x)) else none) = _
  rw [if_pos hf, h]
  rfl
theorem x_inL {x : D} {ys : List D} {k : Bool} (hf : (flat x && ys.all flat) = true) (h : (ys.any fun y => eqD y x) = k) : inF x (.lst ys) = some (.val (.bl k)) := by
  show (if (flat x && ys.all flat) = true then ov (.bl (ys.any fun y => eqD y x)) else none) = _
  rw [if_pos hf, h]
  rfl
theorem x_notIn {x : D} {ys : List D} {k : Bool} (hf : (flat x && ys.all flat) = true) (h : (!ys.any fun y => eqD y x) = k) : notInF x (.tup ys) = some (.val (.bl k)) := by
  show (if (flat x && ys.all flat) = true then ov (.bl (!ys.any fun y => eqD y x)) else none) = _
  rw [if_pos hf, h]
  rfl
theorem x_eqsR {x y : Str} (hx : okS x = true) (hy : okS y = true) : eqF (.str x) (.str y) = some (.val (.bl (decide (x = y)))) := x_eqs hx hy rfl
theorem x_nesR {x y : Str} (hx : okS x = true) (hy : okS y = true) : neF (.str x) (.str y) = some (.val (.bl (!decide (x = y)))) := x_nes hx hy rfl
theorem b_ntrue {b : Bool} (h : b = false) : ¬ b = true := by rw [h]; exact Bool.false_ne_true
theorem b_not_t {b : Bool} (h : b = false) : (!b) = true := by rw [h]; rfl
theorem b_not_f {b : Bool} (h : b = true) : (!b) = false := by rw [h]; rfl
def qCont (r : SR) (b : S) : SR := match r with
  | .next Γ => b Γ
  | r => r
theorem x_seq2 {a b : S} {Γ : Env} {r1 r : SR} (ha : a Γ = r1) (h : qCont r1 b = r) : sSeq a b Γ = r := by
  unfold sSeq
  rw [ha]
  cases r1 <;> exact h
theorem sc_next {Γ : Env} {b : S} {r : SR} (h : b Γ = r) : qCont (.next Γ) b = r := h
theorem x_set2 {i : Nat} {e : E} {Γ : Env} {r1 : R Opd} {r : SR} (he : e Γ = r1) (h : r1.toSB (setR i) = r) : sSet i e Γ = r := by
  unfold sSet
  rw [he]
  exact h
theorem x_drop2 {e : E} {Γ : Env} {r1 : R Opd} {r : SR} (he : e Γ = r1) (h : (r1.toSB fun _ Γ1 => .next Γ1) = r) : sDrop e Γ = r := by
  unfold sDrop
  rw [he]
  exact h
theorem x_ret2 {e : E} {Γ : Env} {r1 : R Opd} {r : SR} (he : e Γ = r1) (h : (r1.toSB fun o Γ1 => match o.get Γ1 with | some d => .ret d | none => .stuck) = r) : sRet e Γ = r := by
  unfold sRet
  rw [he]
  exact h
theorem st_v {i : Nat} {d : D} {Γ : Env} : (R.ok (Opd.val d) Γ).toSB (setR i) = .next (Γ.set i (.sh d)) := rfl
theorem st_f {i : Nat} {d : D} {Γ : Env} : (R.ok (Opd.fresh d) Γ).toSB (setR i) = .next (Γ.set i (.ow d)) := rfl
theorem st_x {i : Nat} {c : Str} {fs : List D} {Γ : Env} : (R.exc c fs Γ : R Opd).toSB (setR i) = .exc c fs Γ := rfl
theorem dr_v {o : Opd} {Γ : Env} : ((R.ok o Γ).toSB fun _ Γ1 => SR.next Γ1) = .next Γ := rfl
theorem dr_x {c : Str} {fs : List D} {Γ : Env} : ((R.exc c fs Γ : R Opd).toSB fun _ Γ1 => SR.next Γ1) = .exc c fs Γ := rfl
theorem rt_v {o : Opd} {d : D} {Γ : Env} (h : o.get Γ = some d) : ((R.ok o Γ).toSB fun o Γ1 => match o.get Γ1 with | some d => SR.ret d | none => .stuck) = .ret d := by
  show (match o.get Γ with | some d => SR.ret d | none => .stuck) = _
  rw [h]
theorem rt_x {c : Str} {fs : List D} {Γ : Env} : ((R.exc c fs Γ : R Opd).toSB fun o Γ1 => match o.get Γ1 with | some d => SR.ret d | none => .stuck) = .exc c fs Γ := rfl
theorem sc_ret {d : D} {b : S} : qCont (.ret d) b = .ret d := rfl
theorem sc_exc {c : Str} {fs : List D} {Γ : Env} {b : S} : qCont (.exc c fs Γ) b = .exc c fs Γ := rfl
def callC (os : List Opd) (Γ : Env) : Res → R Opd
  | .ok d => if os.any Opd.isOwn then (if noMut d || (noMutI d && noOwnIns Γ) then .ok (.val d) Γ else .stuck) else .ok (.val d) Γ
  | .exc c fs => if fs.isEmpty || !os.any Opd.isOwn || noMutX fs then .exc c fs Γ else .stuck
  | .stuck => .stuck
theorem x_call2 {f : Fn} {t : As} {Γ Γ1 : Env} {os : List Opd} {ds : List D} {res : Res} {r : R Opd} (ht : t Γ = .ok os Γ1) (hg : gets Γ1 os = some ds) (hf : f ds = res) (hr : callC os Γ1 res = r) : eCall f t Γ = r := by
  unfold eCall
  rw [ht]
  show callR f os Γ1 = _
  unfold callR
  rw [hg]
  dsimp only
  rw [hf]
  exact hr
theorem cc_no {os : List Opd} {Γ : Env} {d : D} (h : os.any Opd.isOwn = false) : callC os Γ (.ok d) = .ok (.val d) Γ := by
  unfold callC
  dsimp only
  rw [h]
  rfl
theorem cc_mut {os : List Opd} {Γ : Env} {d : D} (h : noMut d = true) : callC os Γ (.ok d) = .ok (.val d) Γ := by
  unfold callC
  dsimp only
  rw [h]
  simp
theorem cc_ins {os : List Opd} {Γ : Env} {d : D} (h : (noMutI d && noOwnIns Γ) = true) : callC os Γ (.ok d) = .ok (.val d) Γ := by
  unfold callC
  dsimp only
  rw [h]
  simp
theorem cc_exc {os : List Opd} {Γ : Env} {c : Str} {fs : List D} (h : (fs.isEmpty || !os.any Opd.isOwn || noMutX fs) = true) : callC os Γ (.exc c fs) = .exc c fs Γ := by
  unfold callC
  dsimp only
  rw [if_pos h]
theorem ite_t {α : Sort _} {b : Bool} {x y r : α} (hb : b = true) (h : x = r) : (if b = true then x else y) = r := by rw [if_pos hb]; exact h
theorem ite_f {α : Sort _} {b : Bool} {x y r : α} (hb : b = false) (h : y = r) : (if b = true then x else y) = r := by rw [if_neg (b_ntrue hb)]; exact h
/-- a truth value is true -/
local macro_rules | `(tactic| array_mem_dec) => `(tactic| first
  | (with_reducible assumption)
  | decide +kernel
  | ((with_reducible apply decide_eq_true); first | (with_reducible assumption) | omega)
  | ((with_reducible apply b_not_t); sizeOf_list_dec))
local macro_rules | `(tactic| sizeOf_list_dec) => `(tactic| first
  | (with_reducible assumption)
  | decide +kernel
  | ((with_reducible apply decide_eq_false); first | (with_reducible assumption) | omega)
  | ((with_reducible apply b_not_f); array_mem_dec))
/-- facts about data -/
local macro_rules | `(tactic| clean_wf) => `(tactic| first
  | (with_reducible assumption)
  | ((with_reducible apply x_eqsR) <;> first | (with_reducible assumption) | decide +kernel)
  | ((with_reducible apply x_nesR) <;> first | (with_reducible assumption) | decide +kernel)
  | (with_reducible exact eqF_int _ _)
  | (with_reducible exact neF_int _ _)
  | exact rfl)
local macro_rules | `(tactic| array_get_dec) => `(tactic| first
  | (with_reducible exact x_eC)
  | ((with_reducible apply x_sh); exact rfl)
  | ((with_reducible apply x_ow); exact rfl)
  | (with_reducible exact x_nil)
  | (with_reducible exact x_next)
  | (with_reducible exact x_raise)
  | (with_reducible exact x_pNo)
  | (with_reducible assumption)
  | ((with_reducible apply x_seq2)
     · array_get_dec
     · first
       | ((with_reducible apply sc_next)
          · array_get_dec)
       | (with_reducible exact sc_ret)
       | (with_reducible exact sc_exc))
  | ((with_reducible apply x_sIf)
     · array_get_dec
     · first
       | ((with_reducible apply ite_t)
          · array_mem_dec
          · array_get_dec)
       | ((with_reducible apply ite_f)
          · sizeOf_list_dec
          · array_get_dec))
  | ((with_reducible apply x_set2)
     · array_get_dec
     · first | (with_reducible exact st_v) | (with_reducible exact st_f) | (with_reducible exact st_x))
  | ((with_reducible apply x_ret2)
     · array_get_dec
     · first | ((with_reducible apply rt_v); exact rfl) | (with_reducible exact rt_x))
  | ((with_reducible apply x_drop2)
     · array_get_dec
     · first | (with_reducible exact dr_v) | (with_reducible exact dr_x))
  | ((with_reducible apply x_bin)
     · array_get_dec
     · array_get_dec
     · exact rfl
     · exact rfl
     · clean_wf)
  | ((with_reducible apply x_un)
     · array_get_dec
     · exact rfl
     · clean_wf)
  | ((with_reducible apply x_cons)
     · array_get_dec
     · array_get_dec)
  | ((with_reducible apply x_cb)
     · array_get_dec
     · exact rfl
     · clean_wf)
  | ((with_reducible apply x_cbs)
     · array_get_dec
     · exact rfl
     · clean_wf)
  | ((with_reducible apply x_call2)
     · array_get_dec
     · exact rfl
     · clean_wf
     · first | ((with_reducible apply cc_no); exact rfl) | ((with_reducible apply cc_mut); exact rfl) | ((with_reducible apply cc_ins); exact rfl) | ((with_reducible apply cc_exc); exact rfl) | ((with_reducible apply cc_mut); (with_reducible assumption)) | ((with_reducible apply cc_ins); (with_reducible assumption)))
  | ((with_reducible apply x_tup)
     · array_get_dec
     · exact rfl
     · exact Nat.le_of_ble_eq_true rfl)
  | ((with_reducible apply x_lst)
     · array_get_dec
     · exact rfl
     · exact Nat.le_of_ble_eq_true rfl)
  | ((with_reducible apply x_if)
     · array_get_dec
     · first
       | ((with_reducible apply ite_t)
          · array_mem_dec
          · array_get_dec)
       | ((with_reducible apply ite_f)
          · sizeOf_list_dec
          · array_get_dec))
  | ((with_reducible apply x_tE)
     · array_get_dec)
  | ((with_reducible apply x_tTru)
     · array_get_dec
     · exact rfl
     · clean_wf)
  | ((with_reducible apply x_tNot)
     · array_get_dec)
  | ((with_reducible apply x_tAnd)
     · array_get_dec
     · first
       | ((with_reducible apply ite_t)
          · array_mem_dec
          · array_get_dec)
       | ((with_reducible apply ite_f)
          · sizeOf_list_dec
          · exact rfl))
  | ((with_reducible apply x_tOr)
     · array_get_dec
     · first
       | ((with_reducible apply ite_t)
          · array_mem_dec
          · exact rfl)
       | ((with_reducible apply ite_f)
          · sizeOf_list_dec
          · array_get_dec))
  | ((with_reducible apply x_and)
     · array_get_dec
     · first
       | ((with_reducible apply ite_t)
          · array_mem_dec
          · array_get_dec)
       | ((with_reducible apply ite_f)
          · sizeOf_list_dec
          · exact rfl))
  | ((with_reducible apply x_not)
     · array_get_dec)
  | ((with_reducible apply x_m1)
     · array_get_dec
     · exact rfl
     · array_get_dec
     · exact rfl
     · clean_wf)
  | ((with_reducible apply x_mut)
     · exact rfl
     · array_get_dec
     · exact rfl
     · exact rfl
     · clean_wf)
  | ((with_reducible apply x_sl)
     · array_get_dec
     · array_get_dec
     · array_get_dec
     · exact rfl
     · clean_wf)
  | ((with_reducible apply x_pE)
     · array_get_dec)
  | ((with_reducible apply x_raiseX)
     · array_get_dec
     · exact rfl))
/-! test -/
def KL (ks : List Str) : D := .lst (ks.map D.str)
theorem ix_KL {ks : List Str} {i : Nat} {a : Str} (h : ks[i]? = some a) : ixF (KL ks) (.int (i : Nat)) = some (.val (.str a)) := by
  have hl := (List.getElem?_eq_some_iff.mp h).1
  show (ixD (ks.map D.str) (i : Nat)).map Opd.val = _
  unfold ixD
  rw [if_pos (by omega), if_pos (by rw [List.length_map]; omega), Int.toNat_natCast, List.getElem?_map, h]
  rfl

/-! M27a: the steps of recipes as plain data; their kinds. -/
def numS (i : Nat) : Str := Str.ofString (toString (i : Int))
inductive Sk where
  | letter (c : Str)
  | one
  | const (f n e : Int) (t : Str)
  | scale (f n e : Int) (t : Str) (i : Nat)
  | power (i : Nat)
  | trace (i : Nat)
  | transpose (i : Nat)
  | inverse (i : Nat)
  | det (i : Nat)
  | sum (i j : Nat)
  | diff (i j : Nat)
  | times (i j : Nat)
def ratD (n d : Int) : D := .ins "Ratio" [("num", .int n), ("den", .int d)]
/-- as the law draws it -/
def lawD : Sk → D
  | .letter c => .tup [.str "letter", .str c]
  | .one => .tup [.str "one"]
  | .const f _ _ _ => .tup [.str "const", .tup [.int f, .int 2]]
  | .scale f _ _ _ i => .tup [.str "scale", .tup [.int f, .int 3], .int (i : Nat)]
  | .power i => .tup [.str "power", .int (i : Nat), .int 2]
  | .trace i => .tup [.str "trace", .int (i : Nat)]
  | .transpose i => .tup [.str "transpose", .int (i : Nat)]
  | .inverse i => .tup [.str "inverse", .int (i : Nat)]
  | .det i => .tup [.str "det", .int (i : Nat)]
  | .sum i j => .tup [.str "sum", .int (i : Nat), .int (j : Nat)]
  | .diff i j => .tup [.str "diff", .int (i : Nat), .int (j : Nat)]
  | .times i j => .tup [.str "times", .int (i : Nat), .int (j : Nat)]
/-- as a recipe holds it -/
def givD : Sk → D
  | .letter c => .tup [.str "letter", .str c]
  | .one => .tup [.str "one"]
  | .const _ n e _ => .tup [.str "const", ratD n e]
  | .scale _ n e _ i => .tup [.str "scale", ratD n e, .int (i : Nat)]
  | .power i => .tup [.str "power", .int (i : Nat), .int 2]
  | .trace i => .tup [.str "trace", .int (i : Nat)]
  | .transpose i => .tup [.str "transpose", .int (i : Nat)]
  | .inverse i => .tup [.str "inverse", .int (i : Nat)]
  | .det i => .tup [.str "det", .int (i : Nat)]
  | .sum i j => .tup [.str "sum", .int (i : Nat), .int (j : Nat)]
  | .diff i j => .tup [.str "diff", .int (i : Nat), .int (j : Nat)]
  | .times i j => .tup [.str "times", .int (i : Nat), .int (j : Nat)]
def wordsS : Sk → List Str
  | .letter c => ["letter", c]
  | .one => ["one"]
  | .const _ _ _ t => ["const", t]
  | .scale _ _ _ t i => ["scale", t, numS i]
  | .power i => ["power", numS i, "2"]
  | .trace i => ["trace", numS i]
  | .transpose i => ["transpose", numS i]
  | .inverse i => ["inverse", numS i]
  | .det i => ["det", numS i]
  | .sum i j => ["sum", numS i, numS j]
  | .diff i j => ["diff", numS i, numS j]
  | .times i j => ["times", numS i, numS j]
/-- the places that it names are below n -/
def Sk.idx (n : Nat) : Sk → Prop
  | .scale _ _ _ _ i => i < n
  | .power i => i < n
  | .trace i => i < n
  | .transpose i => i < n
  | .inverse i => i < n
  | .det i => i < n
  | .sum i j => i < n ∧ j < n
  | .diff i j => i < n ∧ j < n
  | .times i j => i < n ∧ j < n
  | _ => True
def kS : Bool → Str
  | true => "matrix"
  | false => "number"
def KB (ks : List Bool) : D := .lst (ks.map fun k => .str (kS k))
def atB (ks : List Bool) (i : Nat) : Bool := ks.getD i true
def kindOf (ks : List Bool) : Sk → Option Bool
  | .letter _ => some true
  | .one => some true
  | .const _ _ _ _ => some false
  | .scale _ _ _ _ i => some (atB ks i)
  | .power i => some (atB ks i)
  | .trace i => if atB ks i then some false else none
  | .transpose i => if atB ks i then some true else none
  | .inverse i => if atB ks i then some true else none
  | .det i => if atB ks i then some false else none
  | .sum i j => if atB ks i = atB ks j then some (atB ks i) else none
  | .diff i j => if atB ks i = atB ks j then some (atB ks i) else none
  | .times i j => some (if atB ks i = atB ks j then atB ks i else true)
theorem ix_KB {ks : List Bool} {i : Nat} (h : i < ks.length) : ixF (KB ks) (.int (i : Nat)) = some (.val (.str (kS (atB ks i)))) := by
  show (ixD (ks.map fun k => D.str (kS k)) (i : Nat)).map Opd.val = _
  unfold ixD
  rw [if_pos (by omega), if_pos (by rw [List.length_map]; omega), Int.toNat_natCast, List.getElem?_map, List.getElem?_eq_getElem h]
  unfold atB
  rw [List.getD_eq_getElem?_getD, List.getElem?_eq_getElem h]
  rfl
def kRes : Option Bool → Res
  | some k => .ok (.str (kS k))
  | none => .exc "WrongKind" []
theorem step_kind1 {w : Str} {i : Nat} {ks : List Bool} {x : D} (h : i < ks.length) (k : Bool) (hk : atB ks i = k) : ixF (KB ks) (.int (i : Nat)) = some (.val (.str (kS k))) := by rw [ix_KB h, hk]
theorem kind_eval (s : Sk) (ks : List Bool) (h : s.idx ks.length) : m_kind_of_step [givD s, KB ks] = kRes (kindOf ks s) := by
  cases s with
  | letter c =>
    have ee : m_step_kind [.tup [.str "letter", .str c], KB ks] = .ok (.str "matrix") := run_ret rfl (by unfold d_step_kind; array_get_dec)
    exact (show m_kind_of_step [.tup [.str "letter", .str c], KB ks] = .ok (.str "matrix") from run_ret rfl (by unfold d_kind_of_step; array_get_dec))
  | one =>
    have ee : m_step_kind [.tup [.str "one"], KB ks] = .ok (.str "matrix") := run_ret rfl (by unfold d_step_kind; array_get_dec)
    exact (show m_kind_of_step [.tup [.str "one"], KB ks] = .ok (.str "matrix") from run_ret rfl (by unfold d_kind_of_step; array_get_dec))
  | const f n e t =>
    have ee : m_step_kind [.tup [.str "const", ratD n e], KB ks] = .ok (.str "number") := run_ret rfl (by unfold d_step_kind; array_get_dec)
    exact (show m_kind_of_step [.tup [.str "const", ratD n e], KB ks] = .ok (.str "number") from run_ret rfl (by unfold d_kind_of_step; array_get_dec))
  | scale f n e t i =>
    have h1 := ix_KB h
    have ee : m_step_kind [.tup [.str "scale", ratD n e, .int (i : Nat)], KB ks] = .ok (.str (kS (atB ks i))) := run_ret rfl (by unfold d_step_kind; array_get_dec)
    exact (show m_kind_of_step [.tup [.str "scale", ratD n e, .int (i : Nat)], KB ks] = .ok (.str (kS (atB ks i))) from run_ret rfl (by unfold d_kind_of_step; array_get_dec))
  | power i =>
    have h1 := ix_KB h
    have ee : m_step_kind [.tup [.str "power", .int (i : Nat), .int 2], KB ks] = .ok (.str (kS (atB ks i))) := run_ret rfl (by unfold d_step_kind; array_get_dec)
    exact (show m_kind_of_step [.tup [.str "power", .int (i : Nat), .int 2], KB ks] = .ok (.str (kS (atB ks i))) from run_ret rfl (by unfold d_kind_of_step; array_get_dec))
  | trace i =>
    have h1 := ix_KB h
    dsimp only [kindOf]
    generalize atB ks i = a at h1 ⊢
    cases a
    · have h3 : ixF (KB ks) (.int (i : Nat)) = some (.val (.str "number")) := h1
      clear h1
      have ee : m_step_kind [.tup [.str "trace", .int (i : Nat)], KB ks] = .exc "WrongKind" [] := run_excX rfl (by unfold d_step_kind; array_get_dec)
      exact (show m_kind_of_step [.tup [.str "trace", .int (i : Nat)], KB ks] = .exc "WrongKind" [] from run_excX rfl (by unfold d_kind_of_step; array_get_dec))
    · have h3 : ixF (KB ks) (.int (i : Nat)) = some (.val (.str "matrix")) := h1
      clear h1
      have ee : m_step_kind [.tup [.str "trace", .int (i : Nat)], KB ks] = .ok (.str "number") := run_ret rfl (by unfold d_step_kind; array_get_dec)
      exact (show m_kind_of_step [.tup [.str "trace", .int (i : Nat)], KB ks] = .ok (.str "number") from run_ret rfl (by unfold d_kind_of_step; array_get_dec))
  | transpose i =>
    have h1 := ix_KB h
    dsimp only [kindOf]
    generalize atB ks i = a at h1 ⊢
    cases a
    · have h3 : ixF (KB ks) (.int (i : Nat)) = some (.val (.str "number")) := h1
      clear h1
      exact (show m_kind_of_step [.tup [.str "transpose", .int (i : Nat)], KB ks] = .exc "WrongKind" [] from run_excX rfl (by unfold d_kind_of_step; array_get_dec))
    · have h3 : ixF (KB ks) (.int (i : Nat)) = some (.val (.str "matrix")) := h1
      clear h1
      exact (show m_kind_of_step [.tup [.str "transpose", .int (i : Nat)], KB ks] = .ok (.str "matrix") from run_ret rfl (by unfold d_kind_of_step; array_get_dec))
  | inverse i =>
    have h1 := ix_KB h
    dsimp only [kindOf]
    generalize atB ks i = a at h1 ⊢
    cases a
    · have h3 : ixF (KB ks) (.int (i : Nat)) = some (.val (.str "number")) := h1
      clear h1
      exact (show m_kind_of_step [.tup [.str "inverse", .int (i : Nat)], KB ks] = .exc "WrongKind" [] from run_excX rfl (by unfold d_kind_of_step; array_get_dec))
    · have h3 : ixF (KB ks) (.int (i : Nat)) = some (.val (.str "matrix")) := h1
      clear h1
      exact (show m_kind_of_step [.tup [.str "inverse", .int (i : Nat)], KB ks] = .ok (.str "matrix") from run_ret rfl (by unfold d_kind_of_step; array_get_dec))
  | det i =>
    have h1 := ix_KB h
    dsimp only [kindOf]
    generalize atB ks i = a at h1 ⊢
    cases a
    · have h3 : ixF (KB ks) (.int (i : Nat)) = some (.val (.str "number")) := h1
      clear h1
      exact (show m_kind_of_step [.tup [.str "det", .int (i : Nat)], KB ks] = .exc "WrongKind" [] from run_excX rfl (by unfold d_kind_of_step; array_get_dec))
    · have h3 : ixF (KB ks) (.int (i : Nat)) = some (.val (.str "matrix")) := h1
      clear h1
      exact (show m_kind_of_step [.tup [.str "det", .int (i : Nat)], KB ks] = .ok (.str "number") from run_ret rfl (by unfold d_kind_of_step; array_get_dec))
  | sum i j =>
    have h1 := ix_KB h.1
    have h2 := ix_KB h.2
    dsimp only [kindOf]
    generalize atB ks i = a at h1 ⊢
    generalize atB ks j = b at h2 ⊢
    cases a <;> cases b
    · have h3 : ixF (KB ks) (.int (i : Nat)) = some (.val (.str "number")) := h1
      have h4 : ixF (KB ks) (.int (j : Nat)) = some (.val (.str "number")) := h2
      clear h1 h2
      have ee : m_step_kind [.tup [.str "sum", .int (i : Nat), .int (j : Nat)], KB ks] = .ok (.str "number") := run_ret rfl (by unfold d_step_kind; array_get_dec)
      exact (show m_kind_of_step [.tup [.str "sum", .int (i : Nat), .int (j : Nat)], KB ks] = .ok (.str "number") from run_ret rfl (by unfold d_kind_of_step; array_get_dec))
    · have h3 : ixF (KB ks) (.int (i : Nat)) = some (.val (.str "number")) := h1
      have h4 : ixF (KB ks) (.int (j : Nat)) = some (.val (.str "matrix")) := h2
      clear h1 h2
      have ee : m_step_kind [.tup [.str "sum", .int (i : Nat), .int (j : Nat)], KB ks] = .exc "WrongKind" [] := run_excX rfl (by unfold d_step_kind; array_get_dec)
      exact (show m_kind_of_step [.tup [.str "sum", .int (i : Nat), .int (j : Nat)], KB ks] = .exc "WrongKind" [] from run_excX rfl (by unfold d_kind_of_step; array_get_dec))
    · have h3 : ixF (KB ks) (.int (i : Nat)) = some (.val (.str "matrix")) := h1
      have h4 : ixF (KB ks) (.int (j : Nat)) = some (.val (.str "number")) := h2
      clear h1 h2
      have ee : m_step_kind [.tup [.str "sum", .int (i : Nat), .int (j : Nat)], KB ks] = .exc "WrongKind" [] := run_excX rfl (by unfold d_step_kind; array_get_dec)
      exact (show m_kind_of_step [.tup [.str "sum", .int (i : Nat), .int (j : Nat)], KB ks] = .exc "WrongKind" [] from run_excX rfl (by unfold d_kind_of_step; array_get_dec))
    · have h3 : ixF (KB ks) (.int (i : Nat)) = some (.val (.str "matrix")) := h1
      have h4 : ixF (KB ks) (.int (j : Nat)) = some (.val (.str "matrix")) := h2
      clear h1 h2
      have ee : m_step_kind [.tup [.str "sum", .int (i : Nat), .int (j : Nat)], KB ks] = .ok (.str "matrix") := run_ret rfl (by unfold d_step_kind; array_get_dec)
      exact (show m_kind_of_step [.tup [.str "sum", .int (i : Nat), .int (j : Nat)], KB ks] = .ok (.str "matrix") from run_ret rfl (by unfold d_kind_of_step; array_get_dec))
  | diff i j =>
    have h1 := ix_KB h.1
    have h2 := ix_KB h.2
    dsimp only [kindOf]
    generalize atB ks i = a at h1 ⊢
    generalize atB ks j = b at h2 ⊢
    cases a <;> cases b
    · have h3 : ixF (KB ks) (.int (i : Nat)) = some (.val (.str "number")) := h1
      have h4 : ixF (KB ks) (.int (j : Nat)) = some (.val (.str "number")) := h2
      clear h1 h2
      have ee : m_step_kind [.tup [.str "diff", .int (i : Nat), .int (j : Nat)], KB ks] = .ok (.str "number") := run_ret rfl (by unfold d_step_kind; array_get_dec)
      exact (show m_kind_of_step [.tup [.str "diff", .int (i : Nat), .int (j : Nat)], KB ks] = .ok (.str "number") from run_ret rfl (by unfold d_kind_of_step; array_get_dec))
    · have h3 : ixF (KB ks) (.int (i : Nat)) = some (.val (.str "number")) := h1
      have h4 : ixF (KB ks) (.int (j : Nat)) = some (.val (.str "matrix")) := h2
      clear h1 h2
      have ee : m_step_kind [.tup [.str "diff", .int (i : Nat), .int (j : Nat)], KB ks] = .exc "WrongKind" [] := run_excX rfl (by unfold d_step_kind; array_get_dec)
      exact (show m_kind_of_step [.tup [.str "diff", .int (i : Nat), .int (j : Nat)], KB ks] = .exc "WrongKind" [] from run_excX rfl (by unfold d_kind_of_step; array_get_dec))
    · have h3 : ixF (KB ks) (.int (i : Nat)) = some (.val (.str "matrix")) := h1
      have h4 : ixF (KB ks) (.int (j : Nat)) = some (.val (.str "number")) := h2
      clear h1 h2
      have ee : m_step_kind [.tup [.str "diff", .int (i : Nat), .int (j : Nat)], KB ks] = .exc "WrongKind" [] := run_excX rfl (by unfold d_step_kind; array_get_dec)
      exact (show m_kind_of_step [.tup [.str "diff", .int (i : Nat), .int (j : Nat)], KB ks] = .exc "WrongKind" [] from run_excX rfl (by unfold d_kind_of_step; array_get_dec))
    · have h3 : ixF (KB ks) (.int (i : Nat)) = some (.val (.str "matrix")) := h1
      have h4 : ixF (KB ks) (.int (j : Nat)) = some (.val (.str "matrix")) := h2
      clear h1 h2
      have ee : m_step_kind [.tup [.str "diff", .int (i : Nat), .int (j : Nat)], KB ks] = .ok (.str "matrix") := run_ret rfl (by unfold d_step_kind; array_get_dec)
      exact (show m_kind_of_step [.tup [.str "diff", .int (i : Nat), .int (j : Nat)], KB ks] = .ok (.str "matrix") from run_ret rfl (by unfold d_kind_of_step; array_get_dec))
  | times i j =>
    have h1 := ix_KB h.1
    have h2 := ix_KB h.2
    dsimp only [kindOf]
    generalize atB ks i = a at h1 ⊢
    generalize atB ks j = b at h2 ⊢
    cases a <;> cases b
    · have h3 : ixF (KB ks) (.int (i : Nat)) = some (.val (.str "number")) := h1
      have h4 : ixF (KB ks) (.int (j : Nat)) = some (.val (.str "number")) := h2
      clear h1 h2
      have ee : m_step_kind [.tup [.str "times", .int (i : Nat), .int (j : Nat)], KB ks] = .ok (.str "number") := run_ret rfl (by unfold d_step_kind; array_get_dec)
      exact (show m_kind_of_step [.tup [.str "times", .int (i : Nat), .int (j : Nat)], KB ks] = .ok (.str "number") from run_ret rfl (by unfold d_kind_of_step; array_get_dec))
    · have h3 : ixF (KB ks) (.int (i : Nat)) = some (.val (.str "number")) := h1
      have h4 : ixF (KB ks) (.int (j : Nat)) = some (.val (.str "matrix")) := h2
      clear h1 h2
      have ee : m_step_kind [.tup [.str "times", .int (i : Nat), .int (j : Nat)], KB ks] = .ok (.str "matrix") := run_ret rfl (by unfold d_step_kind; array_get_dec)
      exact (show m_kind_of_step [.tup [.str "times", .int (i : Nat), .int (j : Nat)], KB ks] = .ok (.str "matrix") from run_ret rfl (by unfold d_kind_of_step; array_get_dec))
    · have h3 : ixF (KB ks) (.int (i : Nat)) = some (.val (.str "matrix")) := h1
      have h4 : ixF (KB ks) (.int (j : Nat)) = some (.val (.str "number")) := h2
      clear h1 h2
      have ee : m_step_kind [.tup [.str "times", .int (i : Nat), .int (j : Nat)], KB ks] = .ok (.str "matrix") := run_ret rfl (by unfold d_step_kind; array_get_dec)
      exact (show m_kind_of_step [.tup [.str "times", .int (i : Nat), .int (j : Nat)], KB ks] = .ok (.str "matrix") from run_ret rfl (by unfold d_kind_of_step; array_get_dec))
    · have h3 : ixF (KB ks) (.int (i : Nat)) = some (.val (.str "matrix")) := h1
      have h4 : ixF (KB ks) (.int (j : Nat)) = some (.val (.str "matrix")) := h2
      clear h1 h2
      have ee : m_step_kind [.tup [.str "times", .int (i : Nat), .int (j : Nat)], KB ks] = .ok (.str "matrix") := run_ret rfl (by unfold d_step_kind; array_get_dec)
      exact (show m_kind_of_step [.tup [.str "times", .int (i : Nat), .int (j : Nat)], KB ks] = .ok (.str "matrix") from run_ret rfl (by unfold d_kind_of_step; array_get_dec))

/-! M27b: numbers as words; _read_index. -/
theorem numS_ne : ∀ i < 20, ∀ j < 20, i ≠ j → numS i ≠ numS j := by decide +kernel
theorem numS_ok : ∀ i < 20, okS (numS i) = true := by decide +kernel
theorem numS_free : ∀ i < 20, 32 ∉ (numS i).cps.toList ∧ 10 ∉ (numS i).cps.toList := by decide +kernel
theorem numS_len : ∀ i < 20, (numS i).length ≤ 2 := by decide +kernel
theorem num_log : ∀ i < 20, ((i : Nat) : Int).natAbs.log2 < 1920 := by decide +kernel
theorem strF_num {i : Nat} (h : i < 20) : strF [.int (i : Nat)] = some (.val (.str (numS i))) := by
  show (if ((i : Nat) : Int).natAbs.log2 < 1920 then ov (.str (Str.ofString (toString ((i : Nat) : Int)))) else none) = _
  rw [if_pos (num_log i h)]
  rfl
def riBody : DP.S := (DP.sIf (DP.tE (DP.eBin DP.eqF (DP.eCB DP.strF (DP.aCons (DP.eV 3) DP.aNil)) (DP.eBin DP.ixF (DP.eV 0) (DP.eC (.int 0))))) (DP.sRet (DP.eV 3)) DP.sNext)
theorem zInts_cons (a m : Nat) : zInts (a : Nat) (m + 1) = .int (a : Nat) :: zInts ((a + 1 : Nat) : Int) m := rfl
theorem ri_no {w : Str} (hw : okS w = true) {x y : Slot} : ∀ (m a : Nat) (s3 : Slot), a + m ≤ 20 → (∀ k, k < m → numS (a + k) ≠ w) →
    ∃ s4, forLoop (gN 3) riBody (zInts (a : Nat) m) [.sh (.lst [.str w]), x, y, s3] = .next [.sh (.lst [.str w]), x, y, s4]
  | 0, a, s3, _, _ => ⟨s3, rfl⟩
  | m + 1, a, s3, hm, hk => by
    obtain ⟨s4, h⟩ := ri_no hw (x := x) (y := y) m (a + 1) (.sh (.int (a : Nat))) (by omega) fun k hk' => by
      have := hk (k + 1) (by omega)
      rw [show a + 1 + k = a + (k + 1) by omega]
      exact this
    refine ⟨s4, ?_⟩
    have h1 := strF_num (i := a) (by omega)
    have h2 := numS_ok a (by omega)
    have h3 : decide (numS a = w) = false := decide_eq_false (hk 0 (by omega))
    refine f_next (Γ1 := [.sh (.lst [.str w]), x, y, .sh (.int (a : Nat))]) (Γ2 := [.sh (.lst [.str w]), x, y, .sh (.int (a : Nat))]) rfl ?_ h
    unfold riBody
    array_get_dec
theorem ri_hit {w : Str} (hw : okS w = true) {x y : Slot} : ∀ (m a : Nat) (s3 : Slot) (k : Nat), a + m ≤ 20 → k < m → numS (a + k) = w →
    forLoop (gN 3) riBody (zInts (a : Nat) m) [.sh (.lst [.str w]), x, y, s3] = .ret (.int ((a + k : Nat) : Int))
  | 0, a, s3, k, _, hk, _ => absurd hk (Nat.not_lt_zero k)
  | m + 1, a, s3, k, hm, hk, he => by
    have h1 := strF_num (i := a) (by omega)
    have h2 := numS_ok a (by omega)
    by_cases h0 : k = 0
    · subst h0
      have h3 : decide (numS a = w) = true := decide_eq_true he
      refine f_ret (Γ1 := [.sh (.lst [.str w]), x, y, .sh (.int (a : Nat))]) rfl ?_
      unfold riBody
      show _ = SR.ret (.int (a : Nat))
      array_get_dec
    · have h3 : decide (numS a = w) = false := decide_eq_false fun e => numS_ne a (by omega) (a + k) (by omega) (by omega) (e.trans he.symm)
      have h := ri_hit hw (x := x) (y := y) m (a + 1) (.sh (.int (a : Nat))) (k - 1) (by omega) (by omega) (by rw [show a + 1 + (k - 1) = a + k by omega]; exact he)
      rw [show a + 1 + (k - 1) = a + k by omega] at h
      refine f_next (Γ1 := [.sh (.lst [.str w]), x, y, .sh (.int (a : Nat))]) (Γ2 := [.sh (.lst [.str w]), x, y, .sh (.int (a : Nat))]) rfl ?_ h
      unfold riBody
      array_get_dec
theorem ri_it {Γ : Env} {steps : List D} (h : Γ[1]? = some (.sh (.lst steps))) (hl : steps.length ≤ 20) : iR1 (DP.eCB DP.lenF (DP.aCons (DP.eV 1) DP.aNil)) Γ = .ok (zInts ((0 : Nat) : Int) steps.length) Γ := by
  have h1 : eCB lenF (aCons (eV 1) aNil) Γ = .ok (.val (.int (steps.length : Nat))) Γ := x_cb (x_cons (x_sh h) x_nil) (x_gets1 rfl x_gets0) rfl
  have h2 := x_iR1 h1 (by unfold inLine; rw [decide_eq_true (by omega), decide_eq_true (by omega)]; rfl)
  rw [h2]
  rfl
theorem len1 (d : D) : lenF [.lst [d]] = some (.val (.int 1)) := rfl
theorem index_ok {steps : List D} {i : Nat} {num : D} (hl : steps.length ≤ 20) (hi : i < steps.length) : m__read_index [.lst [.str (numS i)], .lst steps, num] = .ok (.int (i : Nat)) := by
  have h := ri_hit (numS_ok i (by omega)) (x := .sh (.lst steps)) (y := .sh num) steps.length 0 .no i (by omega) hi (by rw [Nat.zero_add])
  rw [Nat.zero_add] at h
  have hf := x_for (ri_it (Γ := [.sh (.lst [.str (numS i)]), .sh (.lst steps), .sh num, .no]) rfl hl) h
  refine run_ret rfl ?_
  show d__read_index [.sh (.lst [.str (numS i)]), .sh (.lst steps), .sh num, .no] = _
  have hL := len1 (.str (numS i))
  unfold d__read_index
  unfold riBody at hf
  array_get_dec
abbrev exL (num : D) : List D := [.ins "" [("line", num)]]
theorem index_no {steps : List D} {w : Str} {num : D} (hw : okS w = true) (hl : steps.length ≤ 20) (hi : ∀ i, i < steps.length → numS i ≠ w) : m__read_index [.lst [.str w], .lst steps, num] = .exc "InvalidRecipe" (exL num) := by
  obtain ⟨s4, h⟩ := ri_no hw (x := .sh (.lst steps)) (y := .sh num) steps.length 0 .no (by omega) (by simpa using hi)
  have hf := x_for (ri_it (Γ := [.sh (.lst [.str w]), .sh (.lst steps), .sh num, .no]) rfl hl) h
  have e : ∃ Γ, d__read_index [.sh (.lst [.str w]), .sh (.lst steps), .sh num, .no] = .exc "InvalidRecipe" (exL num) Γ := by
    unfold d__read_index
    unfold riBody at hf
    have hL := len1 (.str w)
    exact ⟨_, by array_get_dec⟩
  exact run_excX rfl e.choose_spec
theorem index_many {ws steps : List D} {num : D} (hl : ws.length ≠ 1) : m__read_index [.lst ws, .lst steps, num] = .exc "InvalidRecipe" (exL num) := by
  have h1 : lenF [.lst ws] = some (.val (.int (ws.length : Nat))) := rfl
  exact run_excX rfl (show d__read_index [.sh (.lst ws), .sh (.lst steps), .sh num, .no] = .exc _ _ _ from by unfold d__read_index; array_get_dec)

/-! M27c: fractions. -/
structure FrOk (f d n e : Int) (t : Str) : Prop where
  mkR : m_Ratio__init [.int f, .int d] = .ok (ratD n e)
  st : m_Ratio__str [ratD n e] = .ok (.str t)
  rd : m_Ratio__read [.str t] = .ok (ratD n e)
  eq : m_Ratio__eq [ratD n e, ratD n e] = .ok (.bl true)
  ok : okS t = true
  sp : 32 ∉ t.cps.toList
  nl : 10 ∉ t.cps.toList
  ln : t.length ≤ 5
theorem fr2 (f : Int) (h1 : -3 ≤ f) (h2 : f ≤ 3) : ∃ n e t, FrOk f 2 n e t := by
  have : f = -3 ∨ f = -2 ∨ f = -1 ∨ f = 0 ∨ f = 1 ∨ f = 2 ∨ f = 3 := by omega
  rcases this with rfl | rfl | rfl | rfl | rfl | rfl | rfl
  · exact ⟨-3, 2, "-3/2", by kernel_rfl, by kernel_rfl, by kernel_rfl, by kernel_rfl, by decide +kernel, by decide +kernel, by decide +kernel, by decide +kernel⟩
  · exact ⟨-1, 1, "-1", by kernel_rfl, by kernel_rfl, by kernel_rfl, by kernel_rfl, by decide +kernel, by decide +kernel, by decide +kernel, by decide +kernel⟩
  · exact ⟨-1, 2, "-1/2", by kernel_rfl, by kernel_rfl, by kernel_rfl, by kernel_rfl, by decide +kernel, by decide +kernel, by decide +kernel, by decide +kernel⟩
  · exact ⟨0, 1, "0", by kernel_rfl, by kernel_rfl, by kernel_rfl, by kernel_rfl, by decide +kernel, by decide +kernel, by decide +kernel, by decide +kernel⟩
  · exact ⟨1, 2, "1/2", by kernel_rfl, by kernel_rfl, by kernel_rfl, by kernel_rfl, by decide +kernel, by decide +kernel, by decide +kernel, by decide +kernel⟩
  · exact ⟨1, 1, "1", by kernel_rfl, by kernel_rfl, by kernel_rfl, by kernel_rfl, by decide +kernel, by decide +kernel, by decide +kernel, by decide +kernel⟩
  · exact ⟨3, 2, "3/2", by kernel_rfl, by kernel_rfl, by kernel_rfl, by kernel_rfl, by decide +kernel, by decide +kernel, by decide +kernel, by decide +kernel⟩
theorem fr3 (f : Int) (h1 : -3 ≤ f) (h2 : f ≤ 3) : ∃ n e t, FrOk f 3 n e t := by
  have : f = -3 ∨ f = -2 ∨ f = -1 ∨ f = 0 ∨ f = 1 ∨ f = 2 ∨ f = 3 := by omega
  rcases this with rfl | rfl | rfl | rfl | rfl | rfl | rfl
  · exact ⟨-1, 1, "-1", by kernel_rfl, by kernel_rfl, by kernel_rfl, by kernel_rfl, by decide +kernel, by decide +kernel, by decide +kernel, by decide +kernel⟩
  · exact ⟨-2, 3, "-2/3", by kernel_rfl, by kernel_rfl, by kernel_rfl, by kernel_rfl, by decide +kernel, by decide +kernel, by decide +kernel, by decide +kernel⟩
  · exact ⟨-1, 3, "-1/3", by kernel_rfl, by kernel_rfl, by kernel_rfl, by kernel_rfl, by decide +kernel, by decide +kernel, by decide +kernel, by decide +kernel⟩
  · exact ⟨0, 1, "0", by kernel_rfl, by kernel_rfl, by kernel_rfl, by kernel_rfl, by decide +kernel, by decide +kernel, by decide +kernel, by decide +kernel⟩
  · exact ⟨1, 3, "1/3", by kernel_rfl, by kernel_rfl, by kernel_rfl, by kernel_rfl, by decide +kernel, by decide +kernel, by decide +kernel, by decide +kernel⟩
  · exact ⟨2, 3, "2/3", by kernel_rfl, by kernel_rfl, by kernel_rfl, by kernel_rfl, by decide +kernel, by decide +kernel, by decide +kernel, by decide +kernel⟩
  · exact ⟨1, 1, "1", by kernel_rfl, by kernel_rfl, by kernel_rfl, by kernel_rfl, by decide +kernel, by decide +kernel, by decide +kernel, by decide +kernel⟩
theorem read_1 : m_Ratio__read [.str "1"] = .ok (ratD 1 1) := by kernel_rfl
theorem read_24 : m_Ratio__read [.str "2/4"] = .exc "InvalidNumber" [] := by kernel_rfl

/-! DpXu: more rules for dx. -/
theorem give_vals (Γ : Env) : ∀ os : List Opd, os.any Opd.isOwn = false → giveAll Γ os = Γ
  | [], _ => rfl
  | o :: r, h => by
    rw [List.any_cons, Bool.or_eq_false_iff] at h
    show giveAll (freeze Γ o) r = Γ
    have : freeze Γ o = Γ := by
      cases o with
      | own i => exact absurd h.1 (fun z => Bool.noConfusion (show true = false from z))
      | _ => rfl
    rw [this]
    exact give_vals Γ r h.2
theorem x_give {f : Fn} {t : As} {Γ Γ1 : Env} {os : List Opd} {ds : List D} {d : D} (ht : t Γ = .ok os Γ1) (hg : gets Γ1 os = some ds) (hf : f ds = .ok d) (ho : os.any Opd.isOwn = false) : eGive f t Γ = .ok (.val d) Γ1 := by
  unfold eGive
  rw [ht]
  show giveR .val f os Γ1 = _
  unfold giveR
  rw [hg]
  dsimp only
  rw [hf]
  dsimp only
  rw [give_vals _ _ ho]
theorem x_giveX {f : Fn} {t : As} {Γ Γ1 : Env} {os : List Opd} {ds : List D} {c : Str} {fs : List D} (ht : t Γ = .ok os Γ1) (hg : gets Γ1 os = some ds) (hf : f ds = .exc c fs) (ho : os.any Opd.isOwn = false) : eGive f t Γ = .exc c fs Γ1 := by
  unfold eGive
  rw [ht]
  show giveR .val f os Γ1 = _
  unfold giveR
  rw [hg]
  dsimp only
  rw [hf]
  dsimp only
  rw [give_vals _ _ ho]
theorem x_new {f : Fn} {dd : List D} {t : As} {Γ Γ1 : Env} {os : List Opd} {ds : List D} {d : D} (ht : t Γ = .ok os Γ1) (hg : gets Γ1 os = some ds) (hf : f (ds ++ dd) = .ok d) : eNewS f dd t Γ = .ok (.val d) (giveAll Γ1 os) := by
  unfold eNewS
  rw [ht]
  show giveR .val (fun ds => f (ds ++ dd)) os Γ1 = _
  unfold giveR
  rw [hg]
  dsimp only
  rw [hf]
theorem x_new0 {f : Fn} {t : As} {Γ Γ1 : Env} {os : List Opd} {ds : List D} {d : D} (ht : t Γ = .ok os Γ1) (hg : gets Γ1 os = some ds) (hf : f ds = .ok d) (ho : os.any Opd.isOwn = false) : eNewS f [] t Γ = .ok (.val d) Γ1 := by
  have := x_new (dd := []) ht hg (by rw [List.append_nil]; exact hf)
  rw [this, give_vals _ _ ho]
theorem x_newX {f : Fn} {t : As} {Γ Γ1 : Env} {os : List Opd} {ds : List D} {c : Str} {fs : List D} (ht : t Γ = .ok os Γ1) (hg : gets Γ1 os = some ds) (hf : f ds = .exc c fs) : eNewS f [] t Γ = .exc c fs (giveAll Γ1 os) := by
  unfold eNewS
  rw [ht]
  show giveR .val (fun ds => f (ds ++ [])) os Γ1 = _
  unfold giveR
  rw [hg]
  dsimp only
  rw [List.append_nil, hf]
theorem x_tryR {sub : Str → Option Bool} {b su : S} {Γ : Env} {d : D} (h : b Γ = .ret d) : sTryX sub b su Γ = .ret d := by
  unfold sTryX
  rw [h]
theorem x_tryN {sub : Str → Option Bool} {b su : S} {Γ Γ1 : Env} (h : b Γ = .next Γ1) : sTryX sub b su Γ = .next Γ1 := by
  unfold sTryX
  rw [h]
theorem x_tryT {sub : Str → Option Bool} {b su : S} {Γ Γ1 : Env} {c : Str} {fs : List D} {r : SR} (h : b Γ = .exc c fs Γ1) (hs : sub c = some true) (hr : su Γ1 = r) : sTryX sub b su Γ = r := by
  unfold sTryX
  rw [h]
  dsimp only
  rw [hs]
  exact hr
/-! loops over lists that are written out -/
def fCont (tg : Tg) (b : S) (xs : List D) (r : SR) : SR := match r with
  | .next Γ => forLoop tg b xs Γ
  | .cont Γ => forLoop tg b xs Γ
  | .brk Γ => .next Γ
  | r => r
theorem x_floop {tg : Tg} {b : S} {Γ Γ1 : Env} {d : D} {xs : List D} {r1 z : SR} (h1 : tg d Γ = some Γ1) (h2 : b Γ1 = r1) (h3 : fCont tg b xs r1 = z) : forLoop tg b (d :: xs) Γ = z := by
  show (match tg d Γ with | none => SR.stuck | some Γ1 => match b Γ1 with | .next Γ2 => forLoop tg b xs Γ2 | .cont Γ2 => forLoop tg b xs Γ2 | .brk Γ2 => .next Γ2 | .ret d => .ret d | .exc c fs Γ2 => .exc c fs Γ2 | .stuck => .stuck) = _
  rw [h1]
  dsimp only
  rw [h2]
  cases r1 <;> exact h3
theorem fc_next {tg : Tg} {b : S} {xs : List D} {Γ : Env} {z : SR} (h : forLoop tg b xs Γ = z) : fCont tg b xs (.next Γ) = z := h
theorem fc_ret {tg : Tg} {b : S} {xs : List D} {d : D} : fCont tg b xs (.ret d) = .ret d := rfl
theorem fc_exc {tg : Tg} {b : S} {xs : List D} {c : Str} {fs : List D} {Γ : Env} : fCont tg b xs (.exc c fs Γ) = .exc c fs Γ := rfl
theorem lc_go {vs : List Nat} {tg : Tg} {e : E} {d : D} {xs acc : List D} {Γ Γ1 Γ2 : Env} {o : Opd} {x : D} {r : Option (List D × Env)} (h1 : tg d Γ = some Γ1) (h2 : e Γ1 = .ok o Γ2) (h3 : o.str = some x) (hl : acc.length < 1000000) (h4 : lcLoop vs tg tYes e xs (wipe Γ2 vs) (acc ++ [x]) = r) : lcLoop vs tg tYes e (d :: xs) Γ acc = r := by
  unfold lcLoop
  rw [h1]
  show (match (R.ok true Γ1 : R Bool) with | .ok true Γ2 => (match e Γ2 with | .ok o Γ3 => (match o.str with | some x => if acc.length < 1000000 then lcLoop vs tg tYes e xs (wipe Γ3 vs) (acc ++ [x]) else none | none => none) | _ => none) | .ok false Γ2 => lcLoop vs tg tYes e xs (wipe Γ2 vs) acc | _ => none) = r
  dsimp only
  rw [h2]
  dsimp only
  rw [h3]
  dsimp only
  rw [if_pos hl]
  exact h4
theorem x_lc {vs : List Nat} {it : It} {tg : Tg} {c : T} {e : E} {Γ Γ1 Γ2 : Env} {xs ds : List D} (h1 : it Γ = .ok xs Γ1) (h2 : lcLoop vs tg c e xs (wipe Γ1 vs) [] = some (ds, Γ2)) : eLc vs it tg c e Γ = .ok (.fresh (.lst ds)) Γ2 := by
  unfold eLc
  rw [h1]
  show (match lcLoop vs tg c e xs (wipe Γ1 vs) [] with | some (ds, Γ2) => R.ok (Opd.fresh (.lst ds)) Γ2 | none => .stuck) = _
  rw [h2]
/-- a comprehension without a test, one name, over a list that is written out -/
theorem x_lc1 {j : Nat} {it : It} {e : E} {Γ Γ1 : Env} {a : D} {x : D} (h1 : it Γ = .ok [a] Γ1) (ha : e ((Γ1.set j .no).set j (.sh a)) = .ok (.val x) ((Γ1.set j .no).set j (.sh a))) : eLc [j] it (gN j) tYes e Γ = .ok (.fresh (.lst [x])) (Γ1.set j .no) := by
  refine x_lc h1 (lc_go rfl ha rfl (by decide) ?_)
  show some ([x], (((Γ1.set j .no).set j (.sh a)).set j .no)) = _
  rw [List.set_set, List.set_set]
theorem x_lc2 {j : Nat} {it : It} {e : E} {Γ Γ1 : Env} {a b : D} {x y : D} (h1 : it Γ = .ok [a, b] Γ1) (ha : e ((Γ1.set j .no).set j (.sh a)) = .ok (.val x) ((Γ1.set j .no).set j (.sh a))) (hb : e ((Γ1.set j .no).set j (.sh b)) = .ok (.val y) ((Γ1.set j .no).set j (.sh b))) : eLc [j] it (gN j) tYes e Γ = .ok (.fresh (.lst [x, y])) (Γ1.set j .no) := by
  have w : ∀ d : D, wipe ((Γ1.set j .no).set j (.sh d)) [j] = Γ1.set j .no := fun d => by
    show ((Γ1.set j .no).set j (.sh d)).set j .no = _
    rw [List.set_set, List.set_set]
  refine x_lc h1 (lc_go rfl ha rfl (by decide) ?_)
  rw [w]
  refine lc_go rfl hb rfl (by simp) ?_
  rw [w]
  rfl
theorem x_lc3 {j : Nat} {it : It} {e : E} {Γ Γ1 : Env} {a b c : D} {x y z : D} (h1 : it Γ = .ok [a, b, c] Γ1) (ha : e ((Γ1.set j .no).set j (.sh a)) = .ok (.val x) ((Γ1.set j .no).set j (.sh a))) (hb : e ((Γ1.set j .no).set j (.sh b)) = .ok (.val y) ((Γ1.set j .no).set j (.sh b))) (hc : e ((Γ1.set j .no).set j (.sh c)) = .ok (.val z) ((Γ1.set j .no).set j (.sh c))) : eLc [j] it (gN j) tYes e Γ = .ok (.fresh (.lst [x, y, z])) (Γ1.set j .no) := by
  have w : ∀ d : D, wipe ((Γ1.set j .no).set j (.sh d)) [j] = Γ1.set j .no := fun d => by
    show ((Γ1.set j .no).set j (.sh d)).set j .no = _
    rw [List.set_set, List.set_set]
  refine x_lc h1 (lc_go rfl ha rfl (by decide) ?_)
  rw [w]
  refine lc_go rfl hb rfl (by simp) ?_
  rw [w]
  refine lc_go rfl hc rfl (by simp) ?_
  rw [w]
  rfl
/-! facts of the data -/
theorem t0 (a : D) (r : List D) : ixF (.tup (a :: r)) (.int 0) = some (.val a) := by
  show (ixD (a :: r) 0).map Opd.val = _
  unfold ixD
  rw [if_pos (by decide), if_pos (by simp only [List.length_cons]; omega)]
  rfl
theorem t1 (a b : D) (r : List D) : ixF (.tup (a :: b :: r)) (.int 1) = some (.val b) := by
  show (ixD (a :: b :: r) 1).map Opd.val = _
  unfold ixD
  rw [if_pos (by decide), if_pos (by simp only [List.length_cons]; omega)]
  rfl
theorem t2 (a b c : D) (r : List D) : ixF (.tup (a :: b :: c :: r)) (.int 2) = some (.val c) := by
  show (ixD (a :: b :: c :: r) 2).map Opd.val = _
  unfold ixD
  rw [if_pos (by decide), if_pos (by simp only [List.length_cons]; omega)]
  rfl
theorem ap0 (y : D) : appendM (.lst []) [y] = some (.non, .lst [y]) := rfl
theorem ap1 (a y : D) : appendM (.lst [a]) [y] = some (.non, .lst [a, y]) := rfl
theorem ap2 (a b y : D) : appendM (.lst [a, b]) [y] = some (.non, .lst [a, b, y]) := rfl
theorem apN {xs : List D} (h : xs.length < 1000000) (y : D) : appendM (.lst xs) [y] = some (.non, .lst (xs ++ [y])) := by
  show (if xs.length < 1000000 then some (D.non, D.lst (xs ++ [y])) else none) = _
  rw [if_pos h]
theorem tsl1 (a : D) : slF (.tup [a]) (some 1) none = some (.val (.tup [])) := rfl
theorem tsl2 (a b : D) : slF (.tup [a, b]) (some 1) none = some (.val (.tup [b])) := rfl
theorem tsl3 (a b c : D) : slF (.tup [a, b, c]) (some 1) none = some (.val (.tup [b, c])) := rfl
theorem isT1 (xs : List D) : isTyF "tuple" (.tup xs) = some (.val (.bl true)) := rfl
theorem isT2 (s : Str) : isTyF "tuple" (.str s) = some (.val (.bl false)) := rfl
theorem isT3 (i : Int) : isTyF "tuple" (.int i) = some (.val (.bl false)) := rfl
theorem strS (s : Str) : strF [.str s] = some (.val (.str s)) := rfl
theorem x_for2 {it : It} {tg : Tg} {b : S} {Γ Γ1 Γ2 : Env} {xs : List D} {r : SR} (h : it Γ = .ok xs Γ1) (hr : forLoop tg b xs Γ2 = r) (he : Γ1 = Γ2) : sFor it tg b Γ = r := by
  subst he
  exact x_for h hr
theorem f_append {tg : Tg} {b : S} {ys : List D} : ∀ {xs : List D} {Γ Γ1 : Env}, forLoop tg b xs Γ = .next Γ1 → (∀ Γ2, forLoop tg b xs Γ = .next Γ2 → True) → (∀ d ∈ xs, ∀ Γ, ∀ Γ2, b Γ ≠ .brk Γ2) → forLoop tg b (xs ++ ys) Γ = forLoop tg b ys Γ1
  | [], Γ, Γ1, h, _, _ => by
    have h : SR.next Γ = .next Γ1 := h
    cases h
    rfl
  | d :: xs, Γ, Γ1, h, _, hb => by
    have h : (match tg d Γ with | none => SR.stuck | some Γ1 => match b Γ1 with | .next Γ2 => forLoop tg b xs Γ2 | .cont Γ2 => forLoop tg b xs Γ2 | .brk Γ2 => .next Γ2 | .ret d => .ret d | .exc c fs Γ2 => .exc c fs Γ2 | .stuck => .stuck) = SR.next Γ1 := h
    show (match tg d Γ with | none => SR.stuck | some Γ1 => match b Γ1 with | .next Γ2 => forLoop tg b (xs ++ ys) Γ2 | .cont Γ2 => forLoop tg b (xs ++ ys) Γ2 | .brk Γ2 => .next Γ2 | .ret d => .ret d | .exc c fs Γ2 => .exc c fs Γ2 | .stuck => .stuck) = _
    cases ht : tg d Γ with
    | none =>
        rw [ht] at h; cases h
    | some Γ2 =>
      rw [ht] at h
      dsimp only at h ⊢
      cases hc : b Γ2 with
      | next Γ3 => rw [hc] at h; exact f_append h (fun _ _ => trivial) fun d hd => hb d (List.mem_cons_of_mem _ hd)
      | cont Γ3 => rw [hc] at h; exact f_append h (fun _ _ => trivial) fun d hd => hb d (List.mem_cons_of_mem _ hd)
      | brk Γ3 => exact absurd hc (hb d List.mem_cons_self _ _)
      | ret d => rw [hc] at h; cases h
      | exc c fs Γ3 => rw [hc] at h; cases h
      | stuck => rw [hc] at h; cases h
local macro_rules | `(tactic| array_get_dec) => `(tactic| first
  | ((with_reducible apply x_for2)
     · array_get_dec
     · (with_reducible assumption)
     · exact rfl)
  | ((with_reducible apply x_for)
     · array_get_dec
     · array_get_dec)
  | ((with_reducible apply x_floop)
     · exact rfl
     · array_get_dec
     · first
       | ((with_reducible apply fc_next)
          · array_get_dec)
       | (with_reducible exact fc_ret)
       | (with_reducible exact fc_exc))
  | (with_reducible exact f_nil)
  | ((with_reducible apply x_iE)
     · array_get_dec
     · exact rfl
     · exact rfl)
  | ((with_reducible apply x_lc1)
     · array_get_dec
     · array_get_dec)
  | ((with_reducible apply x_lc2)
     · array_get_dec
     · array_get_dec
     · array_get_dec)
  | ((with_reducible apply x_lc3)
     · array_get_dec
     · array_get_dec
     · array_get_dec
     · array_get_dec)
  | ((with_reducible apply x_new0)
     · array_get_dec
     · exact rfl
     · clean_wf
     · exact rfl)
  | ((with_reducible apply x_give)
     · array_get_dec
     · exact rfl
     · clean_wf
     · exact rfl)
  | ((with_reducible apply x_tryR)
     · array_get_dec)
  | ((with_reducible apply x_tryN)
     · array_get_dec))

/-! M27d (printed by mkd.py): _read_ratio, _read_step. -/
theorem ratio_ok {t : Str} {d num : D} (h : m_Ratio__read [.str t] = .ok d) : m__read_ratio [.str t, num] = .ok d := by
  have e : eGive m_Ratio__read (aCons (eV 0) aNil) [.sh (.str t), .sh num] = .ok (.val d) [.sh (.str t), .sh num] := x_give (x_cons (x_sh rfl) x_nil) rfl h rfl
  refine run_ret rfl (show d__read_ratio [.sh (.str t), .sh num] = _ from ?_)
  unfold d__read_ratio
  exact x_tryR (x_ret e rfl)
theorem ratio_no {t : Str} {num : D} (h : m_Ratio__read [.str t] = .exc "InvalidNumber" []) : m__read_ratio [.str t, num] = .exc "InvalidRecipe" (exL num) := by
  have e : eGive m_Ratio__read (aCons (eV 0) aNil) [.sh (.str t), .sh num] = .exc "InvalidNumber" [] [.sh (.str t), .sh num] := x_giveX (x_cons (x_sh rfl) x_nil) rfl h rfl
  refine run_excX (Γ := [.sh (.str t), .sh num]) rfl (show d__read_ratio [.sh (.str t), .sh num] = _ from ?_)
  unfold d__read_ratio
  exact x_tryT (x_retX e) rfl (x_raiseX (x_sh rfl) rfl)
theorem most_no {n : Nat} (h : n ≤ 20) : eqF (.int (n : Nat)) g_MOST_RECIPE_STEPS = some (.val (.bl false)) := x_eqi (decide_eq_false (by omega))
theorem sl3a (a b c : D) : slF (.lst [a, b, c]) (some 1) (some 2) = some (.fresh (.lst [b])) := rfl
theorem sl3b (a b c : D) : slF (.lst [a, b, c]) (some 2) none = some (.fresh (.lst [c])) := rfl
theorem sl2 (a b : D) : slF (.lst [a, b]) (some 1) none = some (.fresh (.lst [b])) := rfl
theorem len2 (a b : D) : lenF [.lst [a, b]] = some (.val (.int 2)) := rfl
theorem len3 (a b c : D) : lenF [.lst [a, b, c]] = some (.val (.int 3)) := rfl
theorem lenN (xs : List D) : lenF [.lst xs] = some (.val (.int (xs.length : Nat))) := rfl
theorem pw2 : intSF [.str "2"] = some (.val (.int 2)) := by kernel_rfl
theorem i0 (a : D) (r : List D) : ixF (.lst (a :: r)) (.int 0) = some (.val a) := by
  show (ixD (a :: r) 0).map Opd.val = _
  unfold ixD
  rw [if_pos (by decide), if_pos (by simp only [List.length_cons]; omega)]
  rfl
theorem i1 (a b : D) (r : List D) : ixF (.lst (a :: b :: r)) (.int 1) = some (.val b) := by
  show (ixD (a :: b :: r) 1).map Opd.val = _
  unfold ixD
  rw [if_pos (by decide), if_pos (by simp only [List.length_cons]; omega)]
  rfl
theorem i2 (a b c : D) (r : List D) : ixF (.lst (a :: b :: c :: r)) (.int 2) = some (.val c) := by
  show (ixD (a :: b :: c :: r) 2).map Opd.val = _
  unfold ixD
  rw [if_pos (by decide), if_pos (by simp only [List.length_cons]; omega)]
  rfl
section
variable {L : Str} {steps : List D} {num : D}
theorem rs_run {ws : List D} {d : D} (h : d__read_step [.sh (.lst ws), .sh (.str L), .sh (.lst steps), .sh num, .no] = .ret d) : m__read_step [.lst ws, .str L, .lst steps, num] = .ok d := run_ret rfl h

theorem rs_one  (hl : steps.length ≤ 20) : m__read_step [.lst [.str "one"], .str L, .lst steps, num] = .ok (.tup [.str "one"]) := by
  have hN := lenN steps
  have hM := most_no hl
  have hL := len1 (.str "one")
  have h0 := i0 (.str "one") []
  refine rs_run ?_
  unfold d__read_step
  array_get_dec
theorem rs_letter {c : Str} (hc : lenTF [.str c] = some (.val (.int 1))) (hin : inTF (.str c) (.str L) = some (.val (.bl true))) (hl : steps.length ≤ 20) : m__read_step [.lst [.str "letter", .str c], .str L, .lst steps, num] = .ok (.tup [.str "letter", .str c]) := by
  have hN := lenN steps
  have hM := most_no hl
  have hL := len2 (.str "letter") (.str c)
  have h0 := i0 (.str "letter") [.str c]
  have h1 := i1 (.str "letter") (.str c) []
  refine rs_run ?_
  unfold d__read_step
  array_get_dec
theorem rs_const {f n e : Int} {t : Str} (F : FrOk f 2 n e t) (hl : steps.length ≤ 20) : m__read_step [.lst [.str "const", .str t], .str L, .lst steps, num] = .ok (.tup [.str "const", ratD n e]) := by
  have hN := lenN steps
  have hM := most_no hl
  have hL := len2 (.str "const") (.str t)
  have h0 := i0 (.str "const") [.str t]
  have h1 := i1 (.str "const") (.str t) []
  have hR := ratio_ok (num := num) F.rd
  refine rs_run ?_
  unfold d__read_step
  array_get_dec
theorem rs_scale {f n e : Int} {t : Str} {i : Nat} (F : FrOk f 3 n e t) (hi : i < steps.length) (hl : steps.length ≤ 20) : m__read_step [.lst [.str "scale", .str t, .str (numS i)], .str L, .lst steps, num] = .ok (.tup [.str "scale", ratD n e, .int (i : Nat)]) := by
  have hN := lenN steps
  have hM := most_no hl
  have hL := len3 (.str "scale") (.str t) (.str (numS i))
  have h0 := i0 (.str "scale") [.str t, .str (numS i)]
  have h1 := i1 (.str "scale") (.str t) [.str (numS i)]
  have h2 := i2 (.str "scale") (.str t) (.str (numS i)) []
  have hR := ratio_ok (num := num) F.rd
  have hS := sl3b (.str "scale") (.str t) (.str (numS i))
  have hI := index_ok (num := num) hl hi
  refine rs_run ?_
  unfold d__read_step
  array_get_dec
theorem rs_power {i : Nat} (hi : i < steps.length) (hl : steps.length ≤ 20) : m__read_step [.lst [.str "power", .str (numS i), .str "2"], .str L, .lst steps, num] = .ok (.tup [.str "power", .int (i : Nat), .int 2]) := by
  have hN := lenN steps
  have hM := most_no hl
  have hL := len3 (.str "power") (.str (numS i)) (.str "2")
  have h0 := i0 (.str "power") [.str (numS i), .str "2"]
  have h1 := i1 (.str "power") (.str (numS i)) [.str "2"]
  have h2 := i2 (.str "power") (.str (numS i)) (.str "2") []
  have hS := sl3a (.str "power") (.str (numS i)) (.str "2")
  have hI := index_ok (num := num) hl hi
  have hp := pw2
  refine rs_run ?_
  unfold d__read_step
  array_get_dec
theorem rs_trace {i : Nat} (hi : i < steps.length) (hl : steps.length ≤ 20) : m__read_step [.lst [.str "trace", .str (numS i)], .str L, .lst steps, num] = .ok (.tup [.str "trace", .int (i : Nat)]) := by
  have hN := lenN steps
  have hM := most_no hl
  have hL := len2 (.str "trace") (.str (numS i))
  have h0 := i0 (.str "trace") [.str (numS i)]
  have h1 := i1 (.str "trace") (.str (numS i)) []
  have hS := sl2 (.str "trace") (.str (numS i))
  have hI := index_ok (num := num) hl hi
  refine rs_run ?_
  unfold d__read_step
  array_get_dec
theorem rs_transpose {i : Nat} (hi : i < steps.length) (hl : steps.length ≤ 20) : m__read_step [.lst [.str "transpose", .str (numS i)], .str L, .lst steps, num] = .ok (.tup [.str "transpose", .int (i : Nat)]) := by
  have hN := lenN steps
  have hM := most_no hl
  have hL := len2 (.str "transpose") (.str (numS i))
  have h0 := i0 (.str "transpose") [.str (numS i)]
  have h1 := i1 (.str "transpose") (.str (numS i)) []
  have hS := sl2 (.str "transpose") (.str (numS i))
  have hI := index_ok (num := num) hl hi
  refine rs_run ?_
  unfold d__read_step
  array_get_dec
theorem rs_inverse {i : Nat} (hi : i < steps.length) (hl : steps.length ≤ 20) : m__read_step [.lst [.str "inverse", .str (numS i)], .str L, .lst steps, num] = .ok (.tup [.str "inverse", .int (i : Nat)]) := by
  have hN := lenN steps
  have hM := most_no hl
  have hL := len2 (.str "inverse") (.str (numS i))
  have h0 := i0 (.str "inverse") [.str (numS i)]
  have h1 := i1 (.str "inverse") (.str (numS i)) []
  have hS := sl2 (.str "inverse") (.str (numS i))
  have hI := index_ok (num := num) hl hi
  refine rs_run ?_
  unfold d__read_step
  array_get_dec
theorem rs_det {i : Nat} (hi : i < steps.length) (hl : steps.length ≤ 20) : m__read_step [.lst [.str "det", .str (numS i)], .str L, .lst steps, num] = .ok (.tup [.str "det", .int (i : Nat)]) := by
  have hN := lenN steps
  have hM := most_no hl
  have hL := len2 (.str "det") (.str (numS i))
  have h0 := i0 (.str "det") [.str (numS i)]
  have h1 := i1 (.str "det") (.str (numS i)) []
  have hS := sl2 (.str "det") (.str (numS i))
  have hI := index_ok (num := num) hl hi
  refine rs_run ?_
  unfold d__read_step
  array_get_dec
theorem rs_sum {i j : Nat} (hi : i < steps.length) (hj : j < steps.length) (hl : steps.length ≤ 20) : m__read_step [.lst [.str "sum", .str (numS i), .str (numS j)], .str L, .lst steps, num] = .ok (.tup [.str "sum", .int (i : Nat), .int (j : Nat)]) := by
  have hN := lenN steps
  have hM := most_no hl
  have hL := len3 (.str "sum") (.str (numS i)) (.str (numS j))
  have h0 := i0 (.str "sum") [.str (numS i), .str (numS j)]
  have h1 := i1 (.str "sum") (.str (numS i)) [.str (numS j)]
  have h2 := i2 (.str "sum") (.str (numS i)) (.str (numS j)) []
  have hS := sl3a (.str "sum") (.str (numS i)) (.str (numS j))
  have hS2 := sl3b (.str "sum") (.str (numS i)) (.str (numS j))
  have hI := index_ok (num := num) hl hi
  have hJ := index_ok (num := num) hl hj
  refine rs_run ?_
  unfold d__read_step
  array_get_dec
theorem rs_diff {i j : Nat} (hi : i < steps.length) (hj : j < steps.length) (hl : steps.length ≤ 20) : m__read_step [.lst [.str "diff", .str (numS i), .str (numS j)], .str L, .lst steps, num] = .ok (.tup [.str "diff", .int (i : Nat), .int (j : Nat)]) := by
  have hN := lenN steps
  have hM := most_no hl
  have hL := len3 (.str "diff") (.str (numS i)) (.str (numS j))
  have h0 := i0 (.str "diff") [.str (numS i), .str (numS j)]
  have h1 := i1 (.str "diff") (.str (numS i)) [.str (numS j)]
  have h2 := i2 (.str "diff") (.str (numS i)) (.str (numS j)) []
  have hS := sl3a (.str "diff") (.str (numS i)) (.str (numS j))
  have hS2 := sl3b (.str "diff") (.str (numS i)) (.str (numS j))
  have hI := index_ok (num := num) hl hi
  have hJ := index_ok (num := num) hl hj
  refine rs_run ?_
  unfold d__read_step
  array_get_dec
theorem rs_times {i j : Nat} (hi : i < steps.length) (hj : j < steps.length) (hl : steps.length ≤ 20) : m__read_step [.lst [.str "times", .str (numS i), .str (numS j)], .str L, .lst steps, num] = .ok (.tup [.str "times", .int (i : Nat), .int (j : Nat)]) := by
  have hN := lenN steps
  have hM := most_no hl
  have hL := len3 (.str "times") (.str (numS i)) (.str (numS j))
  have h0 := i0 (.str "times") [.str (numS i), .str (numS j)]
  have h1 := i1 (.str "times") (.str (numS i)) [.str (numS j)]
  have h2 := i2 (.str "times") (.str (numS i)) (.str (numS j)) []
  have hS := sl3a (.str "times") (.str (numS i)) (.str (numS j))
  have hS2 := sl3b (.str "times") (.str (numS i)) (.str (numS j))
  have hI := index_ok (num := num) hl hi
  have hJ := index_ok (num := num) hl hj
  refine rs_run ?_
  unfold d__read_step
  array_get_dec
end

/-! M27e: steps that can be written; _law_line. -/
theorem txts_strs : ∀ ys : List Str, txts (ys.map D.str) = some ys
  | [] => rfl
  | y :: r => by
    show (txts (r.map D.str)).map (y :: ·) = _
    rw [txts_strs r]
    rfl
theorem joinF_strs {s : Str} {ys : List Str} (h : joinOk s ys = true) : joinF s (.lst (ys.map D.str)) = some (.val (.str (Txt.join s ys))) := by
  show (match txts (ys.map D.str) with | some ys => if joinOk s ys = true then ov (.str (Txt.join s ys)) else none | none => none) = _
  rw [txts_strs]
  dsimp only
  rw [if_pos h]
  rfl
theorem sum_le : ∀ ys : List Str, (∀ y ∈ ys, y.length ≤ 100) → (ys.map (·.length)).sum ≤ ys.length * 100
  | [], _ => Nat.le_refl _
  | y :: r, h => by
    have h1 := h y List.mem_cons_self
    have h2 := sum_le r fun z hz => h z (List.mem_cons_of_mem _ hz)
    rw [List.map_cons, List.sum_cons, List.length_cons]
    omega
theorem joinOk_le {s : Str} {ys : List Str} (h : ∀ y ∈ ys, y.length ≤ 100) (hn : ys.length ≤ 1000) (hs : s.length ≤ 10) : joinOk s ys = true := by
  have h1 := sum_le ys h
  have h2 : ys.length * s.length ≤ 1000 * 10 := Nat.mul_le_mul hn hs
  exact decide_eq_true
      (by omega)
structure LetOk (L c : Str) : Prop where
  len : lenTF [.str c] = some (.val (.int 1))
  inn : inTF (.str c) (.str L) = some (.val (.bl true))
  ok : okS c = true
  sp : 32 ∉ c.cps.toList
  nl : 10 ∉ c.cps.toList
  ln : c.length ≤ 5
def Sk.fr (L : Str) : Sk → Prop
  | .letter c => LetOk L c
  | .const f n e t => FrOk f 2 n e t
  | .scale f n e t _ => FrOk f 3 n e t
  | _ => True
structure WordOk (w : Str) : Prop where
  ok : okS w = true
  sp : 32 ∉ w.cps.toList
  nl : 10 ∉ w.cps.toList
  ln : w.length ≤ 12
theorem num_word {i : Nat} (h : i < 20) : WordOk (numS i) := ⟨numS_ok i h, (numS_free i h).1, (numS_free i h).2, Nat.le_trans (numS_len i h) (by decide)⟩
theorem fr_word {f d n e : Int} {t : Str} (F : FrOk f d n e t) : WordOk t := ⟨F.ok, F.sp, F.nl, Nat.le_trans F.ln (by decide)⟩
theorem let_word {L c : Str} (F : LetOk L c) : WordOk c := ⟨F.ok, F.sp, F.nl, Nat.le_trans F.ln (by decide)⟩
theorem words_ok {L : Str} {n : Nat} {s : Sk} (h : s.fr L) (hi : s.idx n) (hn : n ≤ 20) : ∀ w ∈ wordsS s, WordOk w := by
  have lit : ∀ w : Str, okS w = true → 32 ∉ w.cps.toList → 10 ∉ w.cps.toList → w.length ≤ 12 → WordOk w := fun w a b c d => ⟨a, b, c, d⟩
  cases s with
  | letter c => exact List.forall_mem_cons.mpr ⟨lit _ (by decide +kernel) (by decide +kernel) (by decide +kernel) (by decide +kernel), List.forall_mem_cons.mpr ⟨let_word h, fun _ h => nomatch h⟩⟩
  | one => exact List.forall_mem_cons.mpr ⟨lit _ (by decide +kernel) (by decide +kernel) (by decide +kernel) (by decide +kernel), fun _ h => nomatch h⟩
  | const f n e t => exact List.forall_mem_cons.mpr ⟨lit _ (by decide +kernel) (by decide +kernel) (by decide +kernel) (by decide +kernel), List.forall_mem_cons.mpr ⟨fr_word h, fun _ h => nomatch h⟩⟩
  | scale f n e t i => exact List.forall_mem_cons.mpr ⟨lit _ (by decide +kernel) (by decide +kernel) (by decide +kernel) (by decide +kernel), List.forall_mem_cons.mpr ⟨fr_word h, List.forall_mem_cons.mpr ⟨num_word (Nat.lt_of_lt_of_le hi hn), fun _ h => nomatch h⟩⟩⟩
  | power i => exact List.forall_mem_cons.mpr ⟨lit _ (by decide +kernel) (by decide +kernel) (by decide +kernel) (by decide +kernel), List.forall_mem_cons.mpr ⟨num_word (Nat.lt_of_lt_of_le hi hn), List.forall_mem_cons.mpr ⟨lit _ (by decide +kernel) (by decide +kernel) (by decide +kernel) (by decide +kernel), fun _ h => nomatch h⟩⟩⟩
  | trace i => exact List.forall_mem_cons.mpr ⟨lit _ (by decide +kernel) (by decide +kernel) (by decide +kernel) (by decide +kernel), List.forall_mem_cons.mpr ⟨num_word (Nat.lt_of_lt_of_le hi hn), fun _ h => nomatch h⟩⟩
  | transpose i => exact List.forall_mem_cons.mpr ⟨lit _ (by decide +kernel) (by decide +kernel) (by decide +kernel) (by decide +kernel), List.forall_mem_cons.mpr ⟨num_word (Nat.lt_of_lt_of_le hi hn), fun _ h => nomatch h⟩⟩
  | inverse i => exact List.forall_mem_cons.mpr ⟨lit _ (by decide +kernel) (by decide +kernel) (by decide +kernel) (by decide +kernel), List.forall_mem_cons.mpr ⟨num_word (Nat.lt_of_lt_of_le hi hn), fun _ h => nomatch h⟩⟩
  | det i => exact List.forall_mem_cons.mpr ⟨lit _ (by decide +kernel) (by decide +kernel) (by decide +kernel) (by decide +kernel), List.forall_mem_cons.mpr ⟨num_word (Nat.lt_of_lt_of_le hi hn), fun _ h => nomatch h⟩⟩
  | sum i j => exact List.forall_mem_cons.mpr ⟨lit _ (by decide +kernel) (by decide +kernel) (by decide +kernel) (by decide +kernel), List.forall_mem_cons.mpr ⟨num_word (Nat.lt_of_lt_of_le hi.1 hn), List.forall_mem_cons.mpr ⟨num_word (Nat.lt_of_lt_of_le hi.2 hn), fun _ h => nomatch h⟩⟩⟩
  | diff i j => exact List.forall_mem_cons.mpr ⟨lit _ (by decide +kernel) (by decide +kernel) (by decide +kernel) (by decide +kernel), List.forall_mem_cons.mpr ⟨num_word (Nat.lt_of_lt_of_le hi.1 hn), List.forall_mem_cons.mpr ⟨num_word (Nat.lt_of_lt_of_le hi.2 hn), fun _ h => nomatch h⟩⟩⟩
  | times i j => exact List.forall_mem_cons.mpr ⟨lit _ (by decide +kernel) (by decide +kernel) (by decide +kernel) (by decide +kernel), List.forall_mem_cons.mpr ⟨num_word (Nat.lt_of_lt_of_le hi.1 hn), List.forall_mem_cons.mpr ⟨num_word (Nat.lt_of_lt_of_le hi.2 hn), fun _ h => nomatch h⟩⟩⟩
def lineS (s : Sk) : Str := Txt.join " " (wordsS s)
theorem sk_len (s : Sk) : (wordsS s).length ≤ 3 := by cases s <;> exact Nat.le_of_ble_eq_true rfl
theorem join_words {L : Str} {n : Nat} {s : Sk} (h : s.fr L) (hi : s.idx n) (hn : n ≤ 20) : joinF " " (.lst ((wordsS s).map D.str)) = some (.val (.str (lineS s))) :=
  joinF_strs (joinOk_le (fun y hy => Nat.le_trans (words_ok h hi hn y hy).ln (by decide)) (Nat.le_trans (sk_len s) (by decide)) (by decide))
theorem or_fr {f d n e : Int} {t : Str} (F : FrOk f d n e t) : or1 strF (strOwnF "Ratio" m_Ratio__str) [ratD n e] = some (.val (.str t)) := by
  show strOwnF "Ratio" m_Ratio__str [ratD n e] = _
  show (if ("Ratio" : Str) = "Ratio" then (match m_Ratio__str [ratD n e] with | .ok (.str s) => ov (.str s) | _ => none) else none) = _
  rw [if_pos rfl, F.st]
  rfl
theorem or_num {i : Nat} (h : i < 20) : or1 strF (strOwnF "Ratio" m_Ratio__str) [.int (i : Nat)] = some (.val (.str (numS i))) := by
  unfold or1
  rw [strF_num h]
theorem or_str (s : Str) : or1 strF (strOwnF "Ratio" m_Ratio__str) [.str s] = some (.val (.str s)) := rfl
theorem or_2 : or1 strF (strOwnF "Ratio" m_Ratio__str) [.int 2] = some (.val (.str "2")) := by
  have := or_num (i := 2) (by decide)
  rw [show numS 2 = "2" by decide +kernel] at this
  exact this
theorem st_2 : strF [.int 2] = some (.val (.str "2")) := by
  have := strF_num (i := 2) (by decide)
  rw [show numS 2 = "2" by decide +kernel] at this
  exact this
section
variable {L : Str} {n : Nat}
theorem ll_run {s r : D} (h : d__law_line [.sh s, .no, .no] = .ret r) : m__law_line [s] = .ok r := run_ret rfl h
end

/-! M27f (printed by mke.py): the lines of steps, the given steps, the shown lines. -/
def lgBody : DP.S := (DP.sIf (DP.tE (DP.eBin DP.eqF (DP.eBin DP.ixF (DP.eV 2) (DP.eC (.int 0))) (DP.eC (.str "const")))) (DP.sDrop (DP.eMut DP.appendM 1 (DP.aCons (DP.eTup (DP.aCons (DP.eC (.str "const")) (DP.aCons (DP.eNewS m_Ratio__init [] (DP.aCons (DP.eBin DP.ixF (DP.eBin DP.ixF (DP.eV 2) (DP.eC (.int 1))) (DP.eC (.int 0))) (DP.aCons (DP.eBin DP.ixF (DP.eBin DP.ixF (DP.eV 2) (DP.eC (.int 1))) (DP.eC (.int 1))) DP.aNil))) DP.aNil))) DP.aNil))) (DP.sIf (DP.tE (DP.eBin DP.eqF (DP.eBin DP.ixF (DP.eV 2) (DP.eC (.int 0))) (DP.eC (.str "scale")))) (DP.sDrop (DP.eMut DP.appendM 1 (DP.aCons (DP.eTup (DP.aCons (DP.eC (.str "scale")) (DP.aCons (DP.eNewS m_Ratio__init [] (DP.aCons (DP.eBin DP.ixF (DP.eBin DP.ixF (DP.eV 2) (DP.eC (.int 1))) (DP.eC (.int 0))) (DP.aCons (DP.eBin DP.ixF (DP.eBin DP.ixF (DP.eV 2) (DP.eC (.int 1))) (DP.eC (.int 1))) DP.aNil))) (DP.aCons (DP.eBin DP.ixF (DP.eV 2) (DP.eC (.int 2))) DP.aNil)))) DP.aNil))) (DP.sDrop (DP.eMut DP.appendM 1 (DP.aCons (DP.eV 2) DP.aNil)))))
def shBody : DP.S := (DP.sDrop (DP.eMut DP.appendM 1 (DP.aCons (DP.eM1 DP.joinF (DP.eC (.str " ")) (DP.eLc [3] (DP.iE (DP.eV 2)) (DP.gN 3) DP.tYes (DP.eCBS (DP.or1 DP.strF (DP.strOwnF "Ratio" m_Ratio__str)) (DP.aCons (DP.eV 3) DP.aNil)))) DP.aNil)))
section
variable {L : Str} {n0 : Nat}
theorem ll_letter {c : Str} (h : (Sk.letter c).fr L) (hi : (Sk.letter c).idx n0) (hn : n0 ≤ 20) : m__law_line [lawD (Sk.letter c)] = .ok (.str (lineS (Sk.letter c))) := by
  have hJ : joinF " " (.lst [.str "letter", .str c]) = some (.val (.str (lineS (Sk.letter c)))) := join_words h hi hn
  have hS := tsl2 (.str "letter") (.str c)
  have h0 := t0 (.str "letter") [.str c]
  have hT1 := isT2 c
  have hs1 := strS c
  have ha1 := ap1 (.str "letter") (.str c)
  refine ll_run ?_
  show d__law_line [.sh (.tup [.str "letter", .str c]), .no, .no] = _
  unfold d__law_line
  array_get_dec
theorem lg_letter {c : Str} (h : (Sk.letter c).fr L) (hi : (Sk.letter c).idx n0) (hn : n0 ≤ 20) {x : Slot} {acc : List D} (hl : acc.length < 1000000) : ∃ Γ, lgBody [x, .ow (.lst acc), .sh (lawD (Sk.letter c))] = .next Γ ∧ Γ = [x, .ow (.lst (acc ++ [givD (Sk.letter c)])), .sh (lawD (Sk.letter c))] := by
  have hA := apN hl (.tup [.str "letter", .str c])
  have h0 := t0 (.str "letter") [.str c]
  have h1 := t1 (.str "letter") (.str c) []
  show ∃ Γ, lgBody [x, .ow (.lst acc), .sh (.tup [.str "letter", .str c])] = .next Γ ∧ _
  unfold lgBody
  apply Exists.intro
  apply And.intro
  · array_get_dec
  · exact rfl
theorem sh_letter {c : Str} (h : (Sk.letter c).fr L) (hi : (Sk.letter c).idx n0) (hn : n0 ≤ 20) {x y : Slot} {acc : List D} (hl : acc.length < 1000000) : ∃ Γ, shBody [x, .ow (.lst acc), .sh (givD (Sk.letter c)), y] = .next Γ ∧ Γ = [x, .ow (.lst (acc ++ [.str (lineS (Sk.letter c))])), .sh (givD (Sk.letter c)), .no] := by
  have hA := apN hl (.str (lineS (Sk.letter c)))
  have hJ : joinF " " (.lst [.str "letter", .str c]) = some (.val (.str (lineS (Sk.letter c)))) := join_words h hi hn
  have hw := or_str "letter"
  have hs1 := or_str c
  show ∃ Γ, shBody [x, .ow (.lst acc), .sh (.tup [.str "letter", .str c]), y] = .next Γ ∧ _
  unfold shBody
  apply Exists.intro
  apply And.intro
  · array_get_dec
  · exact rfl
theorem ll_one  (h : (Sk.one).fr L) (hi : (Sk.one).idx n0) (hn : n0 ≤ 20) : m__law_line [lawD (Sk.one)] = .ok (.str (lineS (Sk.one))) := by
  have hJ : joinF " " (.lst [.str "one"]) = some (.val (.str (lineS (Sk.one)))) := join_words h hi hn
  have hS := tsl1 (.str "one")
  have h0 := t0 (.str "one") []
  refine ll_run ?_
  show d__law_line [.sh (.tup [.str "one"]), .no, .no] = _
  unfold d__law_line
  array_get_dec
theorem lg_one  (h : (Sk.one).fr L) (hi : (Sk.one).idx n0) (hn : n0 ≤ 20) {x : Slot} {acc : List D} (hl : acc.length < 1000000) : ∃ Γ, lgBody [x, .ow (.lst acc), .sh (lawD (Sk.one))] = .next Γ ∧ Γ = [x, .ow (.lst (acc ++ [givD (Sk.one)])), .sh (lawD (Sk.one))] := by
  have hA := apN hl (.tup [.str "one"])
  have h0 := t0 (.str "one") []
  show ∃ Γ, lgBody [x, .ow (.lst acc), .sh (.tup [.str "one"])] = .next Γ ∧ _
  unfold lgBody
  apply Exists.intro
  apply And.intro
  · array_get_dec
  · exact rfl
theorem sh_one  (h : (Sk.one).fr L) (hi : (Sk.one).idx n0) (hn : n0 ≤ 20) {x y : Slot} {acc : List D} (hl : acc.length < 1000000) : ∃ Γ, shBody [x, .ow (.lst acc), .sh (givD (Sk.one)), y] = .next Γ ∧ Γ = [x, .ow (.lst (acc ++ [.str (lineS (Sk.one))])), .sh (givD (Sk.one)), .no] := by
  have hA := apN hl (.str (lineS (Sk.one)))
  have hJ : joinF " " (.lst [.str "one"]) = some (.val (.str (lineS (Sk.one)))) := join_words h hi hn
  have hw := or_str "one"
  show ∃ Γ, shBody [x, .ow (.lst acc), .sh (.tup [.str "one"]), y] = .next Γ ∧ _
  unfold shBody
  apply Exists.intro
  apply And.intro
  · array_get_dec
  · exact rfl
theorem ll_const {f : Int} {n : Int} {e : Int} {t : Str} (h : (Sk.const f n e t).fr L) (hi : (Sk.const f n e t).idx n0) (hn : n0 ≤ 20) : m__law_line [lawD (Sk.const f n e t)] = .ok (.str (lineS (Sk.const f n e t))) := by
  have hJ : joinF " " (.lst [.str "const", .str t]) = some (.val (.str (lineS (Sk.const f n e t)))) := join_words h hi hn
  have hS := tsl2 (.str "const") (.tup [.int f, .int 2])
  have h0 := t0 (.str "const") [.tup [.int f, .int 2]]
  have hT1 := isT1 [.int f, .int 2]
  have h00 := t0 (.int f) [.int 2]
  have h01 := t1 (.int f) (.int 2) []
  have hm : m_Ratio__init [.int f, .int 2] = .ok (ratD n e) := FrOk.mkR h
  have ho := or_fr (f := f) (d := 2) (n := n) (e := e) (t := t) h
  have ha1 := ap1 (.str "const") (.str t)
  refine ll_run ?_
  show d__law_line [.sh (.tup [.str "const", .tup [.int f, .int 2]]), .no, .no] = _
  unfold d__law_line
  array_get_dec
theorem lg_const {f : Int} {n : Int} {e : Int} {t : Str} (h : (Sk.const f n e t).fr L) (hi : (Sk.const f n e t).idx n0) (hn : n0 ≤ 20) {x : Slot} {acc : List D} (hl : acc.length < 1000000) : ∃ Γ, lgBody [x, .ow (.lst acc), .sh (lawD (Sk.const f n e t))] = .next Γ ∧ Γ = [x, .ow (.lst (acc ++ [givD (Sk.const f n e t)])), .sh (lawD (Sk.const f n e t))] := by
  have hA := apN hl (.tup [.str "const", ratD n e])
  have h0 := t0 (.str "const") [.tup [.int f, .int 2]]
  have h1 := t1 (.str "const") (.tup [.int f, .int 2]) []
  have h00 := t0 (.int f) [.int 2]
  have h01 := t1 (.int f) (.int 2) []
  have hm : m_Ratio__init [.int f, .int 2] = .ok (ratD n e) := FrOk.mkR h
  show ∃ Γ, lgBody [x, .ow (.lst acc), .sh (.tup [.str "const", .tup [.int f, .int 2]])] = .next Γ ∧ _
  unfold lgBody
  apply Exists.intro
  apply And.intro
  · array_get_dec
  · exact rfl
theorem sh_const {f : Int} {n : Int} {e : Int} {t : Str} (h : (Sk.const f n e t).fr L) (hi : (Sk.const f n e t).idx n0) (hn : n0 ≤ 20) {x y : Slot} {acc : List D} (hl : acc.length < 1000000) : ∃ Γ, shBody [x, .ow (.lst acc), .sh (givD (Sk.const f n e t)), y] = .next Γ ∧ Γ = [x, .ow (.lst (acc ++ [.str (lineS (Sk.const f n e t))])), .sh (givD (Sk.const f n e t)), .no] := by
  have hA := apN hl (.str (lineS (Sk.const f n e t)))
  have hJ : joinF " " (.lst [.str "const", .str t]) = some (.val (.str (lineS (Sk.const f n e t)))) := join_words h hi hn
  have hw := or_str "const"
  have hs1 := or_fr (f := f) (d := 2) (n := n) (e := e) (t := t) h
  show ∃ Γ, shBody [x, .ow (.lst acc), .sh (.tup [.str "const", ratD n e]), y] = .next Γ ∧ _
  unfold shBody
  apply Exists.intro
  apply And.intro
  · array_get_dec
  · exact rfl
theorem ll_scale {f : Int} {n : Int} {e : Int} {t : Str} {i : Nat} (h : (Sk.scale f n e t i).fr L) (hi : (Sk.scale f n e t i).idx n0) (hn : n0 ≤ 20) : m__law_line [lawD (Sk.scale f n e t i)] = .ok (.str (lineS (Sk.scale f n e t i))) := by
  have hJ : joinF " " (.lst [.str "scale", .str t, .str (numS i)]) = some (.val (.str (lineS (Sk.scale f n e t i)))) := join_words h hi hn
  have hS := tsl3 (.str "scale") (.tup [.int f, .int 3]) (.int (i : Nat))
  have h0 := t0 (.str "scale") [.tup [.int f, .int 3], .int (i : Nat)]
  have hT1 := isT1 [.int f, .int 3]
  have h00 := t0 (.int f) [.int 3]
  have h01 := t1 (.int f) (.int 3) []
  have hm : m_Ratio__init [.int f, .int 3] = .ok (ratD n e) := FrOk.mkR h
  have ho := or_fr (f := f) (d := 3) (n := n) (e := e) (t := t) h
  have hT2 := isT3 (i : Nat)
  have hs2 := strF_num (Nat.lt_of_lt_of_le hi hn)
  have ha1 := ap1 (.str "scale") (.str t)
  have ha2 := ap2 (.str "scale") (.str t) (.str (numS i))
  refine ll_run ?_
  show d__law_line [.sh (.tup [.str "scale", .tup [.int f, .int 3], .int (i : Nat)]), .no, .no] = _
  unfold d__law_line
  array_get_dec
theorem lg_scale {f : Int} {n : Int} {e : Int} {t : Str} {i : Nat} (h : (Sk.scale f n e t i).fr L) (hi : (Sk.scale f n e t i).idx n0) (hn : n0 ≤ 20) {x : Slot} {acc : List D} (hl : acc.length < 1000000) : ∃ Γ, lgBody [x, .ow (.lst acc), .sh (lawD (Sk.scale f n e t i))] = .next Γ ∧ Γ = [x, .ow (.lst (acc ++ [givD (Sk.scale f n e t i)])), .sh (lawD (Sk.scale f n e t i))] := by
  have hA := apN hl (.tup [.str "scale", ratD n e, .int (i : Nat)])
  have h0 := t0 (.str "scale") [.tup [.int f, .int 3], .int (i : Nat)]
  have h1 := t1 (.str "scale") (.tup [.int f, .int 3]) [.int (i : Nat)]
  have h2 := t2 (.str "scale") (.tup [.int f, .int 3]) (.int (i : Nat)) []
  have h00 := t0 (.int f) [.int 3]
  have h01 := t1 (.int f) (.int 3) []
  have hm : m_Ratio__init [.int f, .int 3] = .ok (ratD n e) := FrOk.mkR h
  show ∃ Γ, lgBody [x, .ow (.lst acc), .sh (.tup [.str "scale", .tup [.int f, .int 3], .int (i : Nat)])] = .next Γ ∧ _
  unfold lgBody
  apply Exists.intro
  apply And.intro
  · array_get_dec
  · exact rfl
theorem sh_scale {f : Int} {n : Int} {e : Int} {t : Str} {i : Nat} (h : (Sk.scale f n e t i).fr L) (hi : (Sk.scale f n e t i).idx n0) (hn : n0 ≤ 20) {x y : Slot} {acc : List D} (hl : acc.length < 1000000) : ∃ Γ, shBody [x, .ow (.lst acc), .sh (givD (Sk.scale f n e t i)), y] = .next Γ ∧ Γ = [x, .ow (.lst (acc ++ [.str (lineS (Sk.scale f n e t i))])), .sh (givD (Sk.scale f n e t i)), .no] := by
  have hA := apN hl (.str (lineS (Sk.scale f n e t i)))
  have hJ : joinF " " (.lst [.str "scale", .str t, .str (numS i)]) = some (.val (.str (lineS (Sk.scale f n e t i)))) := join_words h hi hn
  have hw := or_str "scale"
  have hs1 := or_fr (f := f) (d := 3) (n := n) (e := e) (t := t) h
  have hs2 := or_num (Nat.lt_of_lt_of_le hi hn)
  show ∃ Γ, shBody [x, .ow (.lst acc), .sh (.tup [.str "scale", ratD n e, .int (i : Nat)]), y] = .next Γ ∧ _
  unfold shBody
  apply Exists.intro
  apply And.intro
  · array_get_dec
  · exact rfl
theorem ll_power {i : Nat} (h : (Sk.power i).fr L) (hi : (Sk.power i).idx n0) (hn : n0 ≤ 20) : m__law_line [lawD (Sk.power i)] = .ok (.str (lineS (Sk.power i))) := by
  have hJ : joinF " " (.lst [.str "power", .str (numS i), .str "2"]) = some (.val (.str (lineS (Sk.power i)))) := join_words h hi hn
  have hS := tsl3 (.str "power") (.int (i : Nat)) (.int 2)
  have h0 := t0 (.str "power") [.int (i : Nat), .int 2]
  have hT1 := isT3 (i : Nat)
  have hs1 := strF_num (Nat.lt_of_lt_of_le hi hn)
  have hT2 := isT3 2
  have hs2 := st_2
  have ha1 := ap1 (.str "power") (.str (numS i))
  have ha2 := ap2 (.str "power") (.str (numS i)) (.str "2")
  refine ll_run ?_
  show d__law_line [.sh (.tup [.str "power", .int (i : Nat), .int 2]), .no, .no] = _
  unfold d__law_line
  array_get_dec
theorem lg_power {i : Nat} (h : (Sk.power i).fr L) (hi : (Sk.power i).idx n0) (hn : n0 ≤ 20) {x : Slot} {acc : List D} (hl : acc.length < 1000000) : ∃ Γ, lgBody [x, .ow (.lst acc), .sh (lawD (Sk.power i))] = .next Γ ∧ Γ = [x, .ow (.lst (acc ++ [givD (Sk.power i)])), .sh (lawD (Sk.power i))] := by
  have hA := apN hl (.tup [.str "power", .int (i : Nat), .int 2])
  have h0 := t0 (.str "power") [.int (i : Nat), .int 2]
  have h1 := t1 (.str "power") (.int (i : Nat)) [.int 2]
  have h2 := t2 (.str "power") (.int (i : Nat)) (.int 2) []
  show ∃ Γ, lgBody [x, .ow (.lst acc), .sh (.tup [.str "power", .int (i : Nat), .int 2])] = .next Γ ∧ _
  unfold lgBody
  apply Exists.intro
  apply And.intro
  · array_get_dec
  · exact rfl
theorem sh_power {i : Nat} (h : (Sk.power i).fr L) (hi : (Sk.power i).idx n0) (hn : n0 ≤ 20) {x y : Slot} {acc : List D} (hl : acc.length < 1000000) : ∃ Γ, shBody [x, .ow (.lst acc), .sh (givD (Sk.power i)), y] = .next Γ ∧ Γ = [x, .ow (.lst (acc ++ [.str (lineS (Sk.power i))])), .sh (givD (Sk.power i)), .no] := by
  have hA := apN hl (.str (lineS (Sk.power i)))
  have hJ : joinF " " (.lst [.str "power", .str (numS i), .str "2"]) = some (.val (.str (lineS (Sk.power i)))) := join_words h hi hn
  have hw := or_str "power"
  have hs1 := or_num (Nat.lt_of_lt_of_le hi hn)
  have hs2 := or_2
  show ∃ Γ, shBody [x, .ow (.lst acc), .sh (.tup [.str "power", .int (i : Nat), .int 2]), y] = .next Γ ∧ _
  unfold shBody
  apply Exists.intro
  apply And.intro
  · array_get_dec
  · exact rfl
theorem ll_trace {i : Nat} (h : (Sk.trace i).fr L) (hi : (Sk.trace i).idx n0) (hn : n0 ≤ 20) : m__law_line [lawD (Sk.trace i)] = .ok (.str (lineS (Sk.trace i))) := by
  have hJ : joinF " " (.lst [.str "trace", .str (numS i)]) = some (.val (.str (lineS (Sk.trace i)))) := join_words h hi hn
  have hS := tsl2 (.str "trace") (.int (i : Nat))
  have h0 := t0 (.str "trace") [.int (i : Nat)]
  have hT1 := isT3 (i : Nat)
  have hs1 := strF_num (Nat.lt_of_lt_of_le hi hn)
  have ha1 := ap1 (.str "trace") (.str (numS i))
  refine ll_run ?_
  show d__law_line [.sh (.tup [.str "trace", .int (i : Nat)]), .no, .no] = _
  unfold d__law_line
  array_get_dec
theorem lg_trace {i : Nat} (h : (Sk.trace i).fr L) (hi : (Sk.trace i).idx n0) (hn : n0 ≤ 20) {x : Slot} {acc : List D} (hl : acc.length < 1000000) : ∃ Γ, lgBody [x, .ow (.lst acc), .sh (lawD (Sk.trace i))] = .next Γ ∧ Γ = [x, .ow (.lst (acc ++ [givD (Sk.trace i)])), .sh (lawD (Sk.trace i))] := by
  have hA := apN hl (.tup [.str "trace", .int (i : Nat)])
  have h0 := t0 (.str "trace") [.int (i : Nat)]
  have h1 := t1 (.str "trace") (.int (i : Nat)) []
  show ∃ Γ, lgBody [x, .ow (.lst acc), .sh (.tup [.str "trace", .int (i : Nat)])] = .next Γ ∧ _
  unfold lgBody
  apply Exists.intro
  apply And.intro
  · array_get_dec
  · exact rfl
theorem sh_trace {i : Nat} (h : (Sk.trace i).fr L) (hi : (Sk.trace i).idx n0) (hn : n0 ≤ 20) {x y : Slot} {acc : List D} (hl : acc.length < 1000000) : ∃ Γ, shBody [x, .ow (.lst acc), .sh (givD (Sk.trace i)), y] = .next Γ ∧ Γ = [x, .ow (.lst (acc ++ [.str (lineS (Sk.trace i))])), .sh (givD (Sk.trace i)), .no] := by
  have hA := apN hl (.str (lineS (Sk.trace i)))
  have hJ : joinF " " (.lst [.str "trace", .str (numS i)]) = some (.val (.str (lineS (Sk.trace i)))) := join_words h hi hn
  have hw := or_str "trace"
  have hs1 := or_num (Nat.lt_of_lt_of_le hi hn)
  show ∃ Γ, shBody [x, .ow (.lst acc), .sh (.tup [.str "trace", .int (i : Nat)]), y] = .next Γ ∧ _
  unfold shBody
  apply Exists.intro
  apply And.intro
  · array_get_dec
  · exact rfl
theorem ll_transpose {i : Nat} (h : (Sk.transpose i).fr L) (hi : (Sk.transpose i).idx n0) (hn : n0 ≤ 20) : m__law_line [lawD (Sk.transpose i)] = .ok (.str (lineS (Sk.transpose i))) := by
  have hJ : joinF " " (.lst [.str "transpose", .str (numS i)]) = some (.val (.str (lineS (Sk.transpose i)))) := join_words h hi hn
  have hS := tsl2 (.str "transpose") (.int (i : Nat))
  have h0 := t0 (.str "transpose") [.int (i : Nat)]
  have hT1 := isT3 (i : Nat)
  have hs1 := strF_num (Nat.lt_of_lt_of_le hi hn)
  have ha1 := ap1 (.str "transpose") (.str (numS i))
  refine ll_run ?_
  show d__law_line [.sh (.tup [.str "transpose", .int (i : Nat)]), .no, .no] = _
  unfold d__law_line
  array_get_dec
theorem lg_transpose {i : Nat} (h : (Sk.transpose i).fr L) (hi : (Sk.transpose i).idx n0) (hn : n0 ≤ 20) {x : Slot} {acc : List D} (hl : acc.length < 1000000) : ∃ Γ, lgBody [x, .ow (.lst acc), .sh (lawD (Sk.transpose i))] = .next Γ ∧ Γ = [x, .ow (.lst (acc ++ [givD (Sk.transpose i)])), .sh (lawD (Sk.transpose i))] := by
  have hA := apN hl (.tup [.str "transpose", .int (i : Nat)])
  have h0 := t0 (.str "transpose") [.int (i : Nat)]
  have h1 := t1 (.str "transpose") (.int (i : Nat)) []
  show ∃ Γ, lgBody [x, .ow (.lst acc), .sh (.tup [.str "transpose", .int (i : Nat)])] = .next Γ ∧ _
  unfold lgBody
  apply Exists.intro
  apply And.intro
  · array_get_dec
  · exact rfl
theorem sh_transpose {i : Nat} (h : (Sk.transpose i).fr L) (hi : (Sk.transpose i).idx n0) (hn : n0 ≤ 20) {x y : Slot} {acc : List D} (hl : acc.length < 1000000) : ∃ Γ, shBody [x, .ow (.lst acc), .sh (givD (Sk.transpose i)), y] = .next Γ ∧ Γ = [x, .ow (.lst (acc ++ [.str (lineS (Sk.transpose i))])), .sh (givD (Sk.transpose i)), .no] := by
  have hA := apN hl (.str (lineS (Sk.transpose i)))
  have hJ : joinF " " (.lst [.str "transpose", .str (numS i)]) = some (.val (.str (lineS (Sk.transpose i)))) := join_words h hi hn
  have hw := or_str "transpose"
  have hs1 := or_num (Nat.lt_of_lt_of_le hi hn)
  show ∃ Γ, shBody [x, .ow (.lst acc), .sh (.tup [.str "transpose", .int (i : Nat)]), y] = .next Γ ∧ _
  unfold shBody
  apply Exists.intro
  apply And.intro
  · array_get_dec
  · exact rfl
theorem ll_inverse {i : Nat} (h : (Sk.inverse i).fr L) (hi : (Sk.inverse i).idx n0) (hn : n0 ≤ 20) : m__law_line [lawD (Sk.inverse i)] = .ok (.str (lineS (Sk.inverse i))) := by
  have hJ : joinF " " (.lst [.str "inverse", .str (numS i)]) = some (.val (.str (lineS (Sk.inverse i)))) := join_words h hi hn
  have hS := tsl2 (.str "inverse") (.int (i : Nat))
  have h0 := t0 (.str "inverse") [.int (i : Nat)]
  have hT1 := isT3 (i : Nat)
  have hs1 := strF_num (Nat.lt_of_lt_of_le hi hn)
  have ha1 := ap1 (.str "inverse") (.str (numS i))
  refine ll_run ?_
  show d__law_line [.sh (.tup [.str "inverse", .int (i : Nat)]), .no, .no] = _
  unfold d__law_line
  array_get_dec
theorem lg_inverse {i : Nat} (h : (Sk.inverse i).fr L) (hi : (Sk.inverse i).idx n0) (hn : n0 ≤ 20) {x : Slot} {acc : List D} (hl : acc.length < 1000000) : ∃ Γ, lgBody [x, .ow (.lst acc), .sh (lawD (Sk.inverse i))] = .next Γ ∧ Γ = [x, .ow (.lst (acc ++ [givD (Sk.inverse i)])), .sh (lawD (Sk.inverse i))] := by
  have hA := apN hl (.tup [.str "inverse", .int (i : Nat)])
  have h0 := t0 (.str "inverse") [.int (i : Nat)]
  have h1 := t1 (.str "inverse") (.int (i : Nat)) []
  show ∃ Γ, lgBody [x, .ow (.lst acc), .sh (.tup [.str "inverse", .int (i : Nat)])] = .next Γ ∧ _
  unfold lgBody
  apply Exists.intro
  apply And.intro
  · array_get_dec
  · exact rfl
theorem sh_inverse {i : Nat} (h : (Sk.inverse i).fr L) (hi : (Sk.inverse i).idx n0) (hn : n0 ≤ 20) {x y : Slot} {acc : List D} (hl : acc.length < 1000000) : ∃ Γ, shBody [x, .ow (.lst acc), .sh (givD (Sk.inverse i)), y] = .next Γ ∧ Γ = [x, .ow (.lst (acc ++ [.str (lineS (Sk.inverse i))])), .sh (givD (Sk.inverse i)), .no] := by
  have hA := apN hl (.str (lineS (Sk.inverse i)))
  have hJ : joinF " " (.lst [.str "inverse", .str (numS i)]) = some (.val (.str (lineS (Sk.inverse i)))) := join_words h hi hn
  have hw := or_str "inverse"
  have hs1 := or_num (Nat.lt_of_lt_of_le hi hn)
  show ∃ Γ, shBody [x, .ow (.lst acc), .sh (.tup [.str "inverse", .int (i : Nat)]), y] = .next Γ ∧ _
  unfold shBody
  apply Exists.intro
  apply And.intro
  · array_get_dec
  · exact rfl
theorem ll_det {i : Nat} (h : (Sk.det i).fr L) (hi : (Sk.det i).idx n0) (hn : n0 ≤ 20) : m__law_line [lawD (Sk.det i)] = .ok (.str (lineS (Sk.det i))) := by
  have hJ : joinF " " (.lst [.str "det", .str (numS i)]) = some (.val (.str (lineS (Sk.det i)))) := join_words h hi hn
  have hS := tsl2 (.str "det") (.int (i : Nat))
  have h0 := t0 (.str "det") [.int (i : Nat)]
  have hT1 := isT3 (i : Nat)
  have hs1 := strF_num (Nat.lt_of_lt_of_le hi hn)
  have ha1 := ap1 (.str "det") (.str (numS i))
  refine ll_run ?_
  show d__law_line [.sh (.tup [.str "det", .int (i : Nat)]), .no, .no] = _
  unfold d__law_line
  array_get_dec
theorem lg_det {i : Nat} (h : (Sk.det i).fr L) (hi : (Sk.det i).idx n0) (hn : n0 ≤ 20) {x : Slot} {acc : List D} (hl : acc.length < 1000000) : ∃ Γ, lgBody [x, .ow (.lst acc), .sh (lawD (Sk.det i))] = .next Γ ∧ Γ = [x, .ow (.lst (acc ++ [givD (Sk.det i)])), .sh (lawD (Sk.det i))] := by
  have hA := apN hl (.tup [.str "det", .int (i : Nat)])
  have h0 := t0 (.str "det") [.int (i : Nat)]
  have h1 := t1 (.str "det") (.int (i : Nat)) []
  show ∃ Γ, lgBody [x, .ow (.lst acc), .sh (.tup [.str "det", .int (i : Nat)])] = .next Γ ∧ _
  unfold lgBody
  apply Exists.intro
  apply And.intro
  · array_get_dec
  · exact rfl
theorem sh_det {i : Nat} (h : (Sk.det i).fr L) (hi : (Sk.det i).idx n0) (hn : n0 ≤ 20) {x y : Slot} {acc : List D} (hl : acc.length < 1000000) : ∃ Γ, shBody [x, .ow (.lst acc), .sh (givD (Sk.det i)), y] = .next Γ ∧ Γ = [x, .ow (.lst (acc ++ [.str (lineS (Sk.det i))])), .sh (givD (Sk.det i)), .no] := by
  have hA := apN hl (.str (lineS (Sk.det i)))
  have hJ : joinF " " (.lst [.str "det", .str (numS i)]) = some (.val (.str (lineS (Sk.det i)))) := join_words h hi hn
  have hw := or_str "det"
  have hs1 := or_num (Nat.lt_of_lt_of_le hi hn)
  show ∃ Γ, shBody [x, .ow (.lst acc), .sh (.tup [.str "det", .int (i : Nat)]), y] = .next Γ ∧ _
  unfold shBody
  apply Exists.intro
  apply And.intro
  · array_get_dec
  · exact rfl
theorem ll_sum {i : Nat} {j : Nat} (h : (Sk.sum i j).fr L) (hi : (Sk.sum i j).idx n0) (hn : n0 ≤ 20) : m__law_line [lawD (Sk.sum i j)] = .ok (.str (lineS (Sk.sum i j))) := by
  have hJ : joinF " " (.lst [.str "sum", .str (numS i), .str (numS j)]) = some (.val (.str (lineS (Sk.sum i j)))) := join_words h hi hn
  have hS := tsl3 (.str "sum") (.int (i : Nat)) (.int (j : Nat))
  have h0 := t0 (.str "sum") [.int (i : Nat), .int (j : Nat)]
  have hT1 := isT3 (i : Nat)
  have hs1 := strF_num (Nat.lt_of_lt_of_le hi.1 hn)
  have hT2 := isT3 (j : Nat)
  have hs2 := strF_num (Nat.lt_of_lt_of_le hi.2 hn)
  have ha1 := ap1 (.str "sum") (.str (numS i))
  have ha2 := ap2 (.str "sum") (.str (numS i)) (.str (numS j))
  refine ll_run ?_
  show d__law_line [.sh (.tup [.str "sum", .int (i : Nat), .int (j : Nat)]), .no, .no] = _
  unfold d__law_line
  array_get_dec
theorem lg_sum {i : Nat} {j : Nat} (h : (Sk.sum i j).fr L) (hi : (Sk.sum i j).idx n0) (hn : n0 ≤ 20) {x : Slot} {acc : List D} (hl : acc.length < 1000000) : ∃ Γ, lgBody [x, .ow (.lst acc), .sh (lawD (Sk.sum i j))] = .next Γ ∧ Γ = [x, .ow (.lst (acc ++ [givD (Sk.sum i j)])), .sh (lawD (Sk.sum i j))] := by
  have hA := apN hl (.tup [.str "sum", .int (i : Nat), .int (j : Nat)])
  have h0 := t0 (.str "sum") [.int (i : Nat), .int (j : Nat)]
  have h1 := t1 (.str "sum") (.int (i : Nat)) [.int (j : Nat)]
  have h2 := t2 (.str "sum") (.int (i : Nat)) (.int (j : Nat)) []
  show ∃ Γ, lgBody [x, .ow (.lst acc), .sh (.tup [.str "sum", .int (i : Nat), .int (j : Nat)])] = .next Γ ∧ _
  unfold lgBody
  apply Exists.intro
  apply And.intro
  · array_get_dec
  · exact rfl
theorem sh_sum {i : Nat} {j : Nat} (h : (Sk.sum i j).fr L) (hi : (Sk.sum i j).idx n0) (hn : n0 ≤ 20) {x y : Slot} {acc : List D} (hl : acc.length < 1000000) : ∃ Γ, shBody [x, .ow (.lst acc), .sh (givD (Sk.sum i j)), y] = .next Γ ∧ Γ = [x, .ow (.lst (acc ++ [.str (lineS (Sk.sum i j))])), .sh (givD (Sk.sum i j)), .no] := by
  have hA := apN hl (.str (lineS (Sk.sum i j)))
  have hJ : joinF " " (.lst [.str "sum", .str (numS i), .str (numS j)]) = some (.val (.str (lineS (Sk.sum i j)))) := join_words h hi hn
  have hw := or_str "sum"
  have hs1 := or_num (Nat.lt_of_lt_of_le hi.1 hn)
  have hs2 := or_num (Nat.lt_of_lt_of_le hi.2 hn)
  show ∃ Γ, shBody [x, .ow (.lst acc), .sh (.tup [.str "sum", .int (i : Nat), .int (j : Nat)]), y] = .next Γ ∧ _
  unfold shBody
  apply Exists.intro
  apply And.intro
  · array_get_dec
  · exact rfl
theorem ll_diff {i : Nat} {j : Nat} (h : (Sk.diff i j).fr L) (hi : (Sk.diff i j).idx n0) (hn : n0 ≤ 20) : m__law_line [lawD (Sk.diff i j)] = .ok (.str (lineS (Sk.diff i j))) := by
  have hJ : joinF " " (.lst [.str "diff", .str (numS i), .str (numS j)]) = some (.val (.str (lineS (Sk.diff i j)))) := join_words h hi hn
  have hS := tsl3 (.str "diff") (.int (i : Nat)) (.int (j : Nat))
  have h0 := t0 (.str "diff") [.int (i : Nat), .int (j : Nat)]
  have hT1 := isT3 (i : Nat)
  have hs1 := strF_num (Nat.lt_of_lt_of_le hi.1 hn)
  have hT2 := isT3 (j : Nat)
  have hs2 := strF_num (Nat.lt_of_lt_of_le hi.2 hn)
  have ha1 := ap1 (.str "diff") (.str (numS i))
  have ha2 := ap2 (.str "diff") (.str (numS i)) (.str (numS j))
  refine ll_run ?_
  show d__law_line [.sh (.tup [.str "diff", .int (i : Nat), .int (j : Nat)]), .no, .no] = _
  unfold d__law_line
  array_get_dec
theorem lg_diff {i : Nat} {j : Nat} (h : (Sk.diff i j).fr L) (hi : (Sk.diff i j).idx n0) (hn : n0 ≤ 20) {x : Slot} {acc : List D} (hl : acc.length < 1000000) : ∃ Γ, lgBody [x, .ow (.lst acc), .sh (lawD (Sk.diff i j))] = .next Γ ∧ Γ = [x, .ow (.lst (acc ++ [givD (Sk.diff i j)])), .sh (lawD (Sk.diff i j))] := by
  have hA := apN hl (.tup [.str "diff", .int (i : Nat), .int (j : Nat)])
  have h0 := t0 (.str "diff") [.int (i : Nat), .int (j : Nat)]
  have h1 := t1 (.str "diff") (.int (i : Nat)) [.int (j : Nat)]
  have h2 := t2 (.str "diff") (.int (i : Nat)) (.int (j : Nat)) []
  show ∃ Γ, lgBody [x, .ow (.lst acc), .sh (.tup [.str "diff", .int (i : Nat), .int (j : Nat)])] = .next Γ ∧ _
  unfold lgBody
  apply Exists.intro
  apply And.intro
  · array_get_dec
  · exact rfl
theorem sh_diff {i : Nat} {j : Nat} (h : (Sk.diff i j).fr L) (hi : (Sk.diff i j).idx n0) (hn : n0 ≤ 20) {x y : Slot} {acc : List D} (hl : acc.length < 1000000) : ∃ Γ, shBody [x, .ow (.lst acc), .sh (givD (Sk.diff i j)), y] = .next Γ ∧ Γ = [x, .ow (.lst (acc ++ [.str (lineS (Sk.diff i j))])), .sh (givD (Sk.diff i j)), .no] := by
  have hA := apN hl (.str (lineS (Sk.diff i j)))
  have hJ : joinF " " (.lst [.str "diff", .str (numS i), .str (numS j)]) = some (.val (.str (lineS (Sk.diff i j)))) := join_words h hi hn
  have hw := or_str "diff"
  have hs1 := or_num (Nat.lt_of_lt_of_le hi.1 hn)
  have hs2 := or_num (Nat.lt_of_lt_of_le hi.2 hn)
  show ∃ Γ, shBody [x, .ow (.lst acc), .sh (.tup [.str "diff", .int (i : Nat), .int (j : Nat)]), y] = .next Γ ∧ _
  unfold shBody
  apply Exists.intro
  apply And.intro
  · array_get_dec
  · exact rfl
theorem ll_times {i : Nat} {j : Nat} (h : (Sk.times i j).fr L) (hi : (Sk.times i j).idx n0) (hn : n0 ≤ 20) : m__law_line [lawD (Sk.times i j)] = .ok (.str (lineS (Sk.times i j))) := by
  have hJ : joinF " " (.lst [.str "times", .str (numS i), .str (numS j)]) = some (.val (.str (lineS (Sk.times i j)))) := join_words h hi hn
  have hS := tsl3 (.str "times") (.int (i : Nat)) (.int (j : Nat))
  have h0 := t0 (.str "times") [.int (i : Nat), .int (j : Nat)]
  have hT1 := isT3 (i : Nat)
  have hs1 := strF_num (Nat.lt_of_lt_of_le hi.1 hn)
  have hT2 := isT3 (j : Nat)
  have hs2 := strF_num (Nat.lt_of_lt_of_le hi.2 hn)
  have ha1 := ap1 (.str "times") (.str (numS i))
  have ha2 := ap2 (.str "times") (.str (numS i)) (.str (numS j))
  refine ll_run ?_
  show d__law_line [.sh (.tup [.str "times", .int (i : Nat), .int (j : Nat)]), .no, .no] = _
  unfold d__law_line
  array_get_dec
theorem lg_times {i : Nat} {j : Nat} (h : (Sk.times i j).fr L) (hi : (Sk.times i j).idx n0) (hn : n0 ≤ 20) {x : Slot} {acc : List D} (hl : acc.length < 1000000) : ∃ Γ, lgBody [x, .ow (.lst acc), .sh (lawD (Sk.times i j))] = .next Γ ∧ Γ = [x, .ow (.lst (acc ++ [givD (Sk.times i j)])), .sh (lawD (Sk.times i j))] := by
  have hA := apN hl (.tup [.str "times", .int (i : Nat), .int (j : Nat)])
  have h0 := t0 (.str "times") [.int (i : Nat), .int (j : Nat)]
  have h1 := t1 (.str "times") (.int (i : Nat)) [.int (j : Nat)]
  have h2 := t2 (.str "times") (.int (i : Nat)) (.int (j : Nat)) []
  show ∃ Γ, lgBody [x, .ow (.lst acc), .sh (.tup [.str "times", .int (i : Nat), .int (j : Nat)])] = .next Γ ∧ _
  unfold lgBody
  apply Exists.intro
  apply And.intro
  · array_get_dec
  · exact rfl
theorem sh_times {i : Nat} {j : Nat} (h : (Sk.times i j).fr L) (hi : (Sk.times i j).idx n0) (hn : n0 ≤ 20) {x y : Slot} {acc : List D} (hl : acc.length < 1000000) : ∃ Γ, shBody [x, .ow (.lst acc), .sh (givD (Sk.times i j)), y] = .next Γ ∧ Γ = [x, .ow (.lst (acc ++ [.str (lineS (Sk.times i j))])), .sh (givD (Sk.times i j)), .no] := by
  have hA := apN hl (.str (lineS (Sk.times i j)))
  have hJ : joinF " " (.lst [.str "times", .str (numS i), .str (numS j)]) = some (.val (.str (lineS (Sk.times i j)))) := join_words h hi hn
  have hw := or_str "times"
  have hs1 := or_num (Nat.lt_of_lt_of_le hi.1 hn)
  have hs2 := or_num (Nat.lt_of_lt_of_le hi.2 hn)
  show ∃ Γ, shBody [x, .ow (.lst acc), .sh (.tup [.str "times", .int (i : Nat), .int (j : Nat)]), y] = .next Γ ∧ _
  unfold shBody
  apply Exists.intro
  apply And.intro
  · array_get_dec
  · exact rfl
theorem ll_all {s : Sk} (h : s.fr L) (hi : s.idx n0) (hn : n0 ≤ 20) : m__law_line [lawD s] = .ok (.str (lineS s)) := by
  cases s with
  | letter c => exact ll_letter h hi hn
  | one => exact ll_one h hi hn
  | const f n e t => exact ll_const h hi hn
  | scale f n e t i => exact ll_scale h hi hn
  | power i => exact ll_power h hi hn
  | trace i => exact ll_trace h hi hn
  | transpose i => exact ll_transpose h hi hn
  | inverse i => exact ll_inverse h hi hn
  | det i => exact ll_det h hi hn
  | sum i j => exact ll_sum h hi hn
  | diff i j => exact ll_diff h hi hn
  | times i j => exact ll_times h hi hn
theorem lg_all {s : Sk} (h : s.fr L) (hi : s.idx n0) (hn : n0 ≤ 20) {x : Slot} {acc : List D} (hl : acc.length < 1000000) : ∃ Γ, lgBody [x, .ow (.lst acc), .sh (lawD s)] = .next Γ ∧ Γ = [x, .ow (.lst (acc ++ [givD s])), .sh (lawD s)] := by
  cases s with
  | letter c => exact lg_letter h hi hn hl
  | one => exact lg_one h hi hn hl
  | const f n e t => exact lg_const h hi hn hl
  | scale f n e t i => exact lg_scale h hi hn hl
  | power i => exact lg_power h hi hn hl
  | trace i => exact lg_trace h hi hn hl
  | transpose i => exact lg_transpose h hi hn hl
  | inverse i => exact lg_inverse h hi hn hl
  | det i => exact lg_det h hi hn hl
  | sum i j => exact lg_sum h hi hn hl
  | diff i j => exact lg_diff h hi hn hl
  | times i j => exact lg_times h hi hn hl
theorem sh_all {s : Sk} (h : s.fr L) (hi : s.idx n0) (hn : n0 ≤ 20) {x y : Slot} {acc : List D} (hl : acc.length < 1000000) : ∃ Γ, shBody [x, .ow (.lst acc), .sh (givD s), y] = .next Γ ∧ Γ = [x, .ow (.lst (acc ++ [.str (lineS s)])), .sh (givD s), .no] := by
  cases s with
  | letter c => exact sh_letter h hi hn hl
  | one => exact sh_one h hi hn hl
  | const f n e t => exact sh_const h hi hn hl
  | scale f n e t i => exact sh_scale h hi hn hl
  | power i => exact sh_power h hi hn hl
  | trace i => exact sh_trace h hi hn hl
  | transpose i => exact sh_transpose h hi hn hl
  | inverse i => exact sh_inverse h hi hn hl
  | det i => exact sh_det h hi hn hl
  | sum i j => exact sh_sum h hi hn hl
  | diff i j => exact sh_diff h hi hn hl
  | times i j => exact sh_times h hi hn hl
end

/-! M27g: rows of steps; _law_given, Recipe.__init__, show_recipe. -/
/-- the steps r can follow steps of the kinds ks; then the kinds are ks' -/
def VF (L : Str) : List Bool → List Sk → List Bool → Prop
  | ks, [], ks' => ks' = ks
  | ks, s :: r, ks' => s.fr L ∧ s.idx ks.length ∧ ∃ k, kindOf ks s = some k ∧ VF L (ks ++ [k]) r ks'
theorem VF.len {L : Str} : ∀ {r : List Sk} {ks ks' : List Bool}, VF L ks r ks' → ks'.length = ks.length + r.length
  | [], ks, ks', h => by
    have h : ks' = ks := h
    rw [h]; rfl
  | s :: r, ks, ks', h => by
    obtain ⟨_, _, k, _, h⟩ := h
    rw [h.len, List.length_append]
    show ks.length + 1 + r.length = ks.length + (r.length + 1)
    omega
theorem VF.app {L : Str} : ∀ {r q : List Sk} {ks k1 k2 : List Bool}, VF L ks r k1 → VF L k1 q k2 → VF L ks (r ++ q) k2
  | [], q, ks, k1, k2, h, h2 => by
    have h : k1 = ks := h
    rw [h] at h2
    exact h2
  | s :: r, q, ks, k1, k2, ⟨a, b, k, c, h⟩, h2 => ⟨a, b, k, c, h.app h2⟩
theorem VF.snoc {L : Str} {r : List Sk} {s : Sk} {ks k1 : List Bool} {k : Bool} (h : VF L ks r k1) (a : s.fr L) (b : s.idx k1.length) (c : kindOf k1 s = some k) : VF L ks (r ++ [s]) (k1 ++ [k]) :=
  h.app ⟨a, b, k, c, rfl⟩
theorem VF.split {L : Str} : ∀ {r q : List Sk} {ks k2 : List Bool}, VF L ks (r ++ q) k2 → ∃ k1, VF L ks r k1 ∧ VF L k1 q k2
  | [], q, ks, k2, h => ⟨ks, rfl, h⟩
  | s :: r, q, ks, k2, ⟨a, b, k, c, h⟩ => by
    obtain ⟨k1, h1, h2⟩ := VF.split (r := r) h
    exact ⟨k1, ⟨a, b, k, c, h1⟩, h2⟩
theorem VF.pre {L : Str} : ∀ {r : List Sk} {ks ks' : List Bool}, VF L ks r ks' → ∃ z, ks' = ks ++ z
  | [], ks, ks', h => ⟨[], by
    have h : ks' = ks := h
    rw [h, List.append_nil]⟩
  | s :: r, ks, ks', ⟨_, _, k, _, h⟩ => by
    obtain ⟨z, e⟩ := h.pre
    exact ⟨k :: z, by rw [e, List.append_assoc]; rfl⟩
theorem Sk.idx_mono {s : Sk} {n m : Nat} (h : s.idx n) (hn : n ≤ m) : s.idx m := by
  cases s <;> simp only [Sk.idx] at h ⊢ <;> omega
theorem VF.each {L : Str} : ∀ {r : List Sk} {ks ks' : List Bool}, VF L ks r ks' → ∀ s ∈ r, s.fr L ∧ s.idx ks'.length
  | [], ks, ks', _, s, hs => nomatch hs
  | s :: r, ks, ks', ⟨a, b, k, _, h⟩, s', hs => by
    rcases List.mem_cons.mp
        hs with rfl | hs
    · refine ⟨a, Sk.idx_mono b ?_⟩
      have := h.len
      rw [List.length_append] at this
      omega
    · exact h.each s' hs
theorem take_pre {α : Type} {a b c : List α} (h : c = a ++ b) : c.take a.length = a := by rw [h, List.take_left]
/-! _law_given -/
theorem lg_loop {L : Str} {n0 : Nat} (hn : n0 ≤ 20) {x : Slot} : ∀ (r : List Sk) (acc : List D) (s2 : Slot), (∀ s ∈ r, s.fr L ∧ s.idx n0) → acc.length + r.length < 1000000 →
    ∃ s2', forLoop (gN 2) lgBody (r.map lawD) [x, .ow (.lst acc), s2] = .next [x, .ow (.lst (acc ++ r.map givD)), s2']
  | [], acc, s2, _, _ => ⟨s2, by rw [List.map_nil, List.map_nil, List.append_nil]; rfl⟩
  | s :: r, acc, s2, h, hl => by
    have hl : acc.length + (r.length + 1) < 1000000 := hl
    obtain ⟨Γ, h1, h2⟩ := lg_all (h s List.mem_cons_self).1 (h s List.mem_cons_self).2 hn (x := x) (acc := acc) (by omega)
    subst h2
    obtain ⟨s2', h3⟩ := lg_loop hn (x := x) r (acc ++ [givD s]) (.sh (lawD s)) (fun z hz => h z (List.mem_cons_of_mem _ hz)) (by rw [List.length_append]; show acc.length + 1 + r.length < _; omega)
    refine ⟨s2', ?_⟩
    rw [List.map_cons,
        List.map_cons]
    rw [List.append_assoc] at h3
    exact f_next rfl h1 h3
theorem given_ok {L : Str} {n0 : Nat} (hn : n0 ≤ 20) {r : List Sk} (h : ∀ s ∈ r, s.fr L ∧ s.idx n0) (hl : r.length < 1000000) : m__law_given [.lst (r.map lawD)] = .ok (.lst (r.map givD)) := by
  obtain ⟨s2', h3⟩ := lg_loop hn (x := .sh (.lst (r.map lawD))) r [] .no h (by simpa using hl)
  rw [List.nil_append] at h3
  refine run_ret rfl ?_
  show d__law_given [.sh (.lst (r.map lawD)), .no, .no] = _
  unfold lgBody at h3
  unfold d__law_given
  array_get_dec
/-! Recipe.__init__ -/
def kBody : DP.S := (DP.sDrop (DP.eMut DP.appendM 4 (DP.aCons (DP.eCall m_kind_of_step (DP.aCons (DP.eV 5) (DP.aCons (DP.eV 4) DP.aNil))) DP.aNil)))
theorem KB_snoc (ks : List Bool) (k : Bool) : KB (ks ++ [k]) = .lst (ks.map (fun k => D.str (kS k)) ++ [.str (kS k)]) := by
  unfold KB
  rw [List.map_append]
  rfl
theorem k_step {x0 x1 x2 x3 : Slot} {s : Sk} {ks : List Bool} {k : Bool} (hi : s.idx ks.length) (hk : kindOf ks s = some k) (hl : ks.length < 1000000) : kBody [x0, x1, x2, x3, .ow (KB ks), .sh (givD s)] = .next [x0, x1, x2, x3, .ow (KB (ks ++ [k])), .sh (givD s)] := by
  have hc : m_kind_of_step [givD s, KB ks] = .ok (.str (kS k)) := by rw [kind_eval s ks hi, hk]; rfl
  have hA : appendM (KB ks) [.str (kS k)] = some (.non, KB (ks ++ [k])) := by
    rw [KB_snoc]
    exact apN (by rw [List.length_map]; exact hl) _
  have e : eCall m_kind_of_step (DP.aCons (DP.eV 5) (DP.aCons (DP.eV 4) DP.aNil)) [x0, x1, x2, x3, .ow (KB ks), .sh (givD s)] = .ok (.val (.str (kS k))) [x0, x1, x2, x3, .ow (KB ks), .sh (givD s)] := x_call2 (x_cons (x_sh rfl) (x_cons (x_ow rfl) x_nil)) rfl hc (cc_mut rfl)
  exact x_drop (x_mut rfl (x_cons e x_nil) rfl rfl hA)
theorem k_stepX {x0 x1 x2 x3 : Slot} {s : Sk} {ks : List Bool} (hi : s.idx ks.length) (hk : kindOf ks s = none) : kBody [x0, x1, x2, x3, .ow (KB ks), .sh (givD s)] = .exc "WrongKind" [] [x0, x1, x2, x3, .ow (KB ks), .sh (givD s)] := by
  have hc : m_kind_of_step [givD s, KB ks] = .exc "WrongKind" [] := by rw [kind_eval s ks hi, hk]; rfl
  have e : eCall m_kind_of_step (DP.aCons (DP.eV 5) (DP.aCons (DP.eV 4) DP.aNil)) [x0, x1, x2, x3, .ow (KB ks), .sh (givD s)] = .exc "WrongKind" [] [x0, x1, x2, x3, .ow (KB ks), .sh (givD s)] := x_call2 (x_cons (x_sh rfl) (x_cons (x_ow rfl) x_nil)) rfl hc (cc_exc rfl)
  exact x_dropX (x_mutX rfl (x_consX e))
theorem k_loop {L : Str} {x0 x1 x2 x3 : Slot} : ∀ (r : List Sk) {ks ks' : List Bool} (s5 : Slot) (q : List D), VF L ks r ks' → ks'.length < 1000000 →
    ∃ s5', forLoop (gN 5) kBody (r.map givD ++ q) [x0, x1, x2, x3, .ow (KB ks), s5] = forLoop (gN 5) kBody q [x0, x1, x2, x3, .ow (KB ks'), s5']
  | [], ks, ks', s5, q, h, _ => by
    have h : ks' = ks := h
    rw [h]
    exact ⟨s5, rfl⟩
  | s :: r, ks, ks', s5, q, ⟨_, b, k, c, h⟩, hl => by
    have e := h.len
    rw [List.length_append] at e
    have e : ks'.length = ks.length + 1 + r.length := e
    obtain ⟨s5', h2⟩ := k_loop (x0 := x0) (x1 := x1) (x2 := x2) (x3 := x3) r (.sh (givD s)) q h hl
    exact ⟨s5', f_next (d := givD s) rfl (k_step b c (by omega)) h2⟩
def recD (L : Str) (ss : List Sk) (ks : List Bool) (res : Nat) : D := .ins "Recipe" [("letters", .str L), ("steps", .tup (ss.map givD)), ("kinds", .tup (ks.map fun k => .str (kS k))), ("result", .int (res : Nat)), ("kind", .str (kS (atB ks res)))]
theorem recipe_ok {L : Str} {ss : List Sk} {ks : List Bool} {res : Nat} (h : VF L [] ss ks) (hl : ks.length < 1000000) (hr : res < ks.length) : m_Recipe__init [.str L, .lst (ss.map givD), .int (res : Nat)] = .ok (recD L ss ks res) := by
  obtain ⟨s5', h3⟩ := k_loop (x0 := .ow (.ins "Recipe" [])) (x1 := .sh (.str L)) (x2 := .sh (.lst (ss.map givD))) (x3 := .sh (.int (res : Nat))) ss .no [] h hl
  rw [List.append_nil] at h3
  have hx := ix_KB hr
  have f1 : sFor (DP.iE (DP.eV 2)) (DP.gN 5) kBody [.ow (.ins "Recipe" []), .sh (.str L), .sh (.lst (ss.map givD)), .sh (.int (res : Nat)), .ow (KB []), .no] = .next [.ow (.ins "Recipe" []), .sh (.str L), .sh (.lst (ss.map givD)), .sh (.int (res : Nat)), .ow (KB ks), s5'] := x_for (x_iE (x_sh rfl) rfl rfl) h3
  have e : d_Recipe__init [.ow (.ins "Recipe" []), .sh (.str L), .sh (.lst (ss.map givD)), .sh (.int (res : Nat)), .no, .no] = .next [.ow (recD L ss ks res), .sh (.str L), .sh (.lst (ss.map givD)), .sh (.int (res : Nat)), .ow (KB ks), s5'] := by
    unfold d_Recipe__init
    unfold kBody at f1
    refine x_seq (x_setf (x_lst x_nil rfl (by decide))) ?_
    refine x_seq f1 ?_
    refine x_seq (Γ1 := [.ow (.ins "Recipe" [("letters", .str L)]), .sh (.str L), .sh (.lst (ss.map givD)), .sh (.int (res : Nat)), .ow (KB ks), s5']) rfl ?_
    refine x_seq (Γ1 := [.ow (.ins "Recipe" [("letters", .str L), ("steps", .tup (ss.map givD))]), .sh (.str L), .sh (.lst (ss.map givD)), .sh (.int (res : Nat)), .ow (KB ks), s5']) rfl ?_
    refine x_seq (Γ1 := [.ow (.ins "Recipe" [("letters", .str L), ("steps", .tup (ss.map givD)), ("kinds", .tup (ks.map fun k => .str (kS k)))]), .sh (.str L), .sh (.lst (ss.map givD)), .sh (.int (res : Nat)), .ow (KB ks), s5']) rfl ?_
    refine x_seq (Γ1 := [.ow (.ins "Recipe" [("letters", .str L), ("steps", .tup (ss.map givD)), ("kinds", .tup (ks.map fun k => .str (kS k))), ("result", .int (res : Nat))]), .sh (.str L), .sh (.lst (ss.map givD)), .sh (.int (res : Nat)), .ow (KB ks), s5']) rfl ?_
    have e2 : DP.eBin DP.ixF (DP.eV 4) (DP.eV 3) [.ow (.ins "Recipe" [("letters", .str L), ("steps", .tup (ss.map givD)), ("kinds", .tup (ks.map fun k => .str (kS k))), ("result", .int (res : Nat))]), .sh (.str L), .sh (.lst (ss.map givD)), .sh (.int (res : Nat)), .ow (KB ks), s5'] = .ok (.val (.str (kS (atB ks res)))) _ := x_bin (x_ow rfl) (x_sh rfl) rfl rfl hx
    unfold sFldD
    rw [e2]
    rfl
  show (match d_Recipe__init [.ow (.ins "Recipe" []), .sh (.str L), .sh (.lst (ss.map givD)), .sh (.int (res : Nat)), .no, .no] with | .next Γ' => (match (Γ'[0]? : Option Slot) with | some (Slot.ow d) => Res.ok d | _ => .stuck) | .exc c fs _ => .exc c fs | _ => .stuck) = _
  rw [e]
  rfl
theorem recipe_no {L : Str} {ss : List Sk} {ks : List Bool} {s : Sk} {res : D} (h : VF L [] ss ks) (hl : ks.length < 1000000) (hi : s.idx ks.length) (hk : kindOf ks s = none) : m_Recipe__init [.str L, .lst (ss.map givD ++ [givD s]), res] = .exc "WrongKind" [] := by
  obtain ⟨s5', h3⟩ := k_loop (x0 := .ow (.ins "Recipe" [])) (x1 := .sh (.str L)) (x2 := .sh (.lst (ss.map givD ++ [givD s]))) (x3 := .sh res) ss .no [givD s] h hl
  have h4 := f_exc (tg := gN 5) (b := kBody) (d := givD s) (r := []) (Γ := [.ow (.ins "Recipe" []), .sh (.str L), .sh (.lst (ss.map givD ++ [givD s])), .sh res, .ow (KB ks), s5']) rfl (k_stepX hi hk)
  rw [h4] at h3
  have f1 := x_for (Γ := [.ow (.ins "Recipe" []), .sh (.str L), .sh (.lst (ss.map givD ++ [givD s])), .sh res, .ow (KB []), .no]) (x_iE (a := eV 2) (x_sh rfl) rfl rfl) h3
  have e : d_Recipe__init [.ow (.ins "Recipe" []), .sh (.str L), .sh (.lst (ss.map givD ++ [givD s])), .sh res, .no, .no] = .exc "WrongKind" [] [.ow (.ins "Recipe" []), .sh (.str L), .sh (.lst (ss.map givD ++ [givD s])), .sh res, .ow (KB ks), .sh (givD s)] := by
    unfold d_Recipe__init
    unfold kBody at f1
    refine x_seq (x_setf (x_lst x_nil rfl (by decide))) ?_
    exact x_seqX f1
  show (match d_Recipe__init [.ow (.ins "Recipe" []), .sh (.str L), .sh (.lst (ss.map givD ++ [givD s])), .sh res, .no, .no] with | .next Γ' => (match (Γ'[0]? : Option Slot) with | some (Slot.ow d) => Res.ok d | _ => .stuck) | .exc c fs _ => .exc c fs | _ => .stuck) = _
  rw [e]
/-! show_recipe -/
theorem sh_loop {L : Str} {n0 : Nat} (hn : n0 ≤ 20) {x : Slot} : ∀ (r : List Sk) (acc : List D) (s2 s3 : Slot), (∀ s ∈ r, s.fr L ∧ s.idx n0) → acc.length + r.length < 1000000 →
    ∃ s2' s3', forLoop (gN 2) shBody (r.map givD) [x, .ow (.lst acc), s2, s3] = .next [x, .ow (.lst (acc ++ r.map fun s => .str (lineS s))), s2', s3']
  | [], acc, s2, s3, _, _ => ⟨s2, s3, by rw [List.map_nil, List.map_nil, List.append_nil]; rfl⟩
  | s :: r, acc, s2, s3, h, hl => by
    have hl : acc.length + (r.length + 1) < 1000000 := hl
    obtain ⟨Γ, h1, h2⟩ := sh_all (h s List.mem_cons_self).1 (h s List.mem_cons_self).2 hn (x := x) (y := s3) (acc := acc) (by omega)
    subst h2
    obtain ⟨s2', s3', h3⟩ := sh_loop hn (x := x) r (acc ++ [.str (lineS s)]) (.sh (givD s)) .no (fun z hz => h z (List.mem_cons_of_mem _ hz)) (by rw [List.length_append]; show acc.length + 1 + r.length < _; omega)
    refine ⟨s2', s3', ?_⟩
    rw [List.map_cons,
        List.map_cons]
    rw [List.append_assoc] at h3
    exact f_next rfl h1 h3

/-! M27h: the text of a recipe. -/
theorem len_tl (s : Str) : s.length = s.cps.toList.length := by rw [Array.length_toList]; rfl
theorem joinL_len (S : List Nat) : ∀ ps : List (List Nat), (TL.joinL S ps).length ≤ (ps.map List.length).sum + ps.length * S.length
  | [] => Nat.zero_le _
  | [p] => by simp [TL.joinL]
  | p :: q :: r => by
    have h := joinL_len S (q :: r)
    show (p ++ (S ++ TL.joinL S (q :: r))).length ≤ _
    rw [List.length_append, List.length_append, List.map_cons, List.sum_cons, List.length_cons, Nat.succ_mul]
    omega
theorem joinL_mem {S : List Nat} {c : Nat} : ∀ {ps : List (List Nat)}, c ∈ TL.joinL S ps → c ∈ S ∨ ∃ p ∈ ps, c ∈ p
  | [], h => nomatch h
  | [p], h => .inr ⟨p, List.mem_cons_self, h⟩
  | p :: q :: r, h => by
    have h : c ∈ p ++ (S ++ TL.joinL S (q :: r)) := h
    rw [List.mem_append, List.mem_append] at h
    rcases h with h | h | h
    · exact .inr ⟨p, List.mem_cons_self, h⟩
    · exact .inl h
    · rcases joinL_mem h with h | ⟨z, hz, h⟩
      · exact .inl h
      · exact .inr ⟨z, List.mem_cons_of_mem _ hz, h⟩
theorem tl_tjoin (y : Str) (ps : List Str) : (Txt.join y ps).cps.toList = TL.joinL y.cps.toList (ps.map fun s => s.cps.toList) := by
  rw [TL.join_eq]
  exact TL.tl_join y ps
theorem join_len (y : Str) (ps : List Str) : (Txt.join y ps).length ≤ (ps.map (·.length)).sum + ps.length * y.length := by
  have h := joinL_len y.cps.toList (ps.map fun s => s.cps.toList)
  rw [len_tl, tl_tjoin, len_tl y]
  have e : (List.map List.length (ps.map fun s => s.cps.toList)) = ps.map (·.length) := by
    rw [List.map_map]
    exact List.map_congr_left fun s _ => (len_tl s).symm
  rw [e, List.length_map] at h
  exact h
def numL (i : Nat) : Str := "give " ++ numS i
def headS (L : Str) : Str := if L.length = 0 then "recipe -" else "recipe " ++ L
def linesS (L : Str) (ss : List Sk) (res : Nat) : List Str := headS L :: (ss.map lineS ++ [numL res])
structure LineOk (w : Str) : Prop where
  nl : 10 ∉ w.cps.toList
  ln : w.length ≤ 100
theorem line_ok {L : Str} {n : Nat} {s : Sk} (h : s.fr L) (hi : s.idx n) (hn : n ≤ 20) : LineOk (lineS s) := by
  have hw := words_ok h hi hn
  refine ⟨fun hc => ?_, ?_⟩
  · unfold lineS at hc
    rw [tl_tjoin] at hc
    rcases joinL_mem hc with hc | ⟨p, hp, hc⟩
    · exact absurd hc (by decide +kernel)
    · obtain ⟨w, hw2, rfl⟩ := List.mem_map.mp hp
      exact (hw w hw2).nl hc
  · have h1 := join_len " " (wordsS s)
    have h2 : ((wordsS s).map (·.length)).sum ≤ (wordsS s).length * 12 := by
      clear h1
      revert hw
      generalize wordsS s = ws
      intro hw
      induction ws with
      | nil => exact Nat.le_refl _
      | cons w ws ih =>
        have a := (hw w List.mem_cons_self).ln
        have b := ih fun z hz => hw z (List.mem_cons_of_mem _ hz)
        rw [List.map_cons, List.sum_cons, List.length_cons]
        omega
    have h3 := sk_len s
    have h4 : (" " : Str).length = 1 := by decide +kernel
    rw [h4] at h1
    unfold lineS
    omega
theorem app_len (a b : Str) : (a ++ b).length = a.length + b.length := by
  have e : (a ++ b).cps.toList = a.cps.toList ++ b.cps.toList := TL.tl_append a b
  rw [len_tl, len_tl, len_tl, e, List.length_append]
theorem app_tl (a b : Str) : (a ++ b).cps.toList = a.cps.toList ++ b.cps.toList := TL.tl_append a b
theorem giveL_ok {i : Nat} (h : i < 20) : LineOk (numL i) := by
  refine ⟨fun hc => ?_, ?_⟩
  · unfold numL at hc
    rw [app_tl, List.mem_append] at hc
    rcases hc with hc | hc
    · exact absurd hc (by decide +kernel)
    · exact (numS_free i h).2 hc
  · unfold numL
    rw [app_len]
    have h1 := numS_len i h
    have h2 : ("give " : Str).length = 5 := by decide +kernel
    omega
theorem fld_let (L : Str) (ss : List Sk) (ks : List Bool) (res : Nat) : fldF ["Recipe"] "letters" (recD L ss ks res) = some (.val (.str L)) := rfl
theorem fld_steps (L : Str) (ss : List Sk) (ks : List Bool) (res : Nat) : fldF ["Recipe"] "steps" (recD L ss ks res) = some (.val (.tup (ss.map givD))) := rfl
theorem fld_kinds (L : Str) (ss : List Sk) (ks : List Bool) (res : Nat) : fldF ["Recipe"] "kinds" (recD L ss ks res) = some (.val (.tup (ks.map fun k => .str (kS k)))) := rfl
theorem fld_result (L : Str) (ss : List Sk) (ks : List Bool) (res : Nat) : fldF ["Recipe"] "result" (recD L ss ks res) = some (.val (.int (res : Nat))) := rfl
theorem fld_kind (L : Str) (ss : List Sk) (ks : List Bool) (res : Nat) : fldF ["Recipe"] "kind" (recD L ss ks res) = some (.val (.str (kS (atB ks res)))) := rfl
structure LettersOk (L : Str) : Prop where
  ln : L.length ≤ 6
  sp : 32 ∉ L.cps.toList
  nl : 10 ∉ L.cps.toList
  ok : okS L = true
theorem head_ok {L : Str} (h : LettersOk L) : LineOk (headS L) := by
  unfold headS
  split
  · exact ⟨by decide +kernel, by decide +kernel⟩
  · refine ⟨fun hc => ?_, ?_⟩
    · rw [app_tl, List.mem_append] at hc
      rcases hc with hc | hc
      · exact absurd hc (by decide +kernel)
      · exact h.nl hc
    · rw [app_len]
      have h1 := h.ln
      have h2 : ("recipe " : Str).length = 7 := by decide +kernel
      omega
theorem lines_ok {L : Str} {ss : List Sk} {res n : Nat} (hL : LettersOk L) (hs : ∀ s ∈ ss, s.fr L ∧ s.idx n) (hn : n ≤ 20) (hr : res < 20) : ∀ w ∈ linesS L ss res, LineOk w := by
  intro w hw
  rcases List.mem_cons.mp hw with rfl | hw
  · exact head_ok hL
  · rcases List.mem_append.mp hw with hw | hw
    · obtain ⟨s, hs2, rfl⟩ := List.mem_map.mp hw
      exact line_ok (hs s hs2).1 (hs s hs2).2 hn
    · rw [List.mem_singleton.mp hw]
      exact giveL_ok hr
theorem lines_len (L : Str) (ss : List Sk) (res : Nat) : (linesS L ss res).length = ss.length + 2 := by
  unfold linesS
  rw [List.length_cons, List.length_append, List.length_map]
  rfl
def textS (L : Str) (ss : List Sk) (res : Nat) : Str := Txt.join "\n" (linesS L ss res)
theorem join_lines {ls : List Str} (h : ∀ w ∈ ls, LineOk w) (hl : ls.length ≤ 1000) : joinF "\n" (.lst (ls.map D.str)) = some (.val (.str (Txt.join "\n" ls))) :=
  joinF_strs (joinOk_le (fun y hy => (h y hy).ln) hl (by decide +kernel))
theorem split_lines {ls : List Str} (h : ∀ w ∈ ls, LineOk w) (hne : ls ≠ []) : Txt.split (Txt.join "\n" ls) "\n" = ls :=
  TL.split_join (s := 10) (S := []) (by decide +kernel) (by decide +kernel) hne fun p hp => (h p hp).nl
theorem lines_map (L : Str) (ss : List Sk) (res : Nat) : (linesS L ss res).map D.str = .str (headS L) :: ((ss.map fun s => .str (lineS s)) ++ [.str (numL res)]) := by
  unfold linesS
  rw [List.map_cons, List.map_append, List.map_map]
  rfl
theorem show_ok {L : Str} {ss : List Sk} {ks : List Bool} {res n : Nat} (hL : LettersOk L) (hs : ∀ s ∈ ss, s.fr L ∧ s.idx n) (hn : n ≤ 20) (hr : res < 20) (hl : ss.length ≤ 20) : m_show_recipe [recD L ss ks res] = .ok (.str (textS L ss res)) := by
  obtain ⟨s2', s3', h3⟩ := sh_loop hn (x := .sh (recD L ss ks res)) ss [.str (headS L)] .no .no hs (by simp only [List.length_cons, List.length_nil]; omega)
  have hJ := join_lines (lines_ok hL hs hn hr) (by rw [lines_len]; omega)
  rw [lines_map] at hJ
  have f1 := fld_let L ss ks res
  have f2 := fld_steps L ss ks res
  have f3 := fld_result L ss ks res
  have hnum := strF_num hr
  have hg : addF (.str "give ") (.str (numS res)) = some (.val (.str (numL res))) := by
    show (if ("give " : Str).length + (numS res).length ≤ 1000000 then ov (.str (("give " : Str) ++ numS res)) else none) = _
    have := numS_len res hr
    have h2 : ("give " : Str).length = 5 := by decide +kernel
    rw [if_pos (by omega)]
    rfl
  have hA : appendM (.lst (.str (headS L) :: ss.map fun s => .str (lineS s))) [.str (numL res)] = some (.non, .lst (.str (headS L) :: ((ss.map fun s => .str (lineS s)) ++ [.str (numL res)]))) := apN (xs := .str (headS L) :: ss.map fun s => .str (lineS s)) (by rw [List.length_cons, List.length_map]; omega) (.str (numL res))
  rw [List.singleton_append] at h3
  refine run_ret rfl ?_
  show d_show_recipe [.sh (recD L ss ks res), .no, .no, .no] = _
  unfold shBody at h3
  by_cases h0 : L.length = 0
  · have ht : truth (.str L) = some false := by
      show (if L.length ≤ 1000000 then some (L.length != 0) else none) = _
      rw [if_pos (by omega), h0]
      rfl
    have hh : headS L = "recipe -" := if_pos h0
    have hr1 : addF (.str "recipe ") (.str "-") = some (.val (.str "recipe -")) := by kernel_rfl
    rw [hh] at h3 hA hJ
    unfold d_show_recipe
    array_get_dec
  · have ht : truth (.str L) = some true := by
      show (if L.length ≤ 1000000 then some (L.length != 0) else none) = _
      have := hL.ln
      rw [if_pos (by omega), bne_iff_ne.mpr h0]
    have hh : headS L = "recipe " ++ L := if_neg h0
    have hr1 : addF (.str "recipe ") (.str L) = some (.val (.str ("recipe " ++ L))) := by
      show (if ("recipe " : Str).length + L.length ≤ 1000000 then ov (.str (("recipe " : Str) ++ L)) else none) = _
      have := hL.ln
      have h2 : ("recipe " : Str).length = 7 := by decide +kernel
      rw [if_pos (by omega)]
      rfl
    rw [hh] at h3 hA hJ
    unfold d_show_recipe
    array_get_dec

/-! M27i (printed by mki.py): _read_step; the body of read_recipe's loop. -/
def rBody : DP.S := (DP.sSeq (DP.sSet 7 (DP.eM1 DP.splitF (DP.eV 6) (DP.eC (.str " "))))
    (DP.sSeq (DP.sIf (DP.tE (DP.eBin DP.eqF (DP.eBin DP.ixF (DP.eV 7) (DP.eC (.int 0))) (DP.eC (.str "give")))) (DP.sSeq (DP.sSet 9 (DP.eCall m__read_index (DP.aCons (DP.eSl DP.slF (DP.eV 7) (DP.pE (DP.eC (.int 1))) DP.pNo) (DP.aCons (DP.eV 3) (DP.aCons (DP.eV 5) DP.aNil)))))
    (DP.sSeq (DP.sIf (DP.tE (DP.eBin DP.ltF (DP.eV 5) (DP.eCB DP.lenF (DP.aCons (DP.eV 1) DP.aNil)))) (DP.sRaiseX "InvalidRecipe" "line" (DP.eBin DP.addF (DP.eV 5) (DP.eC (.int 1)))) DP.sNext)
    (DP.sRet (DP.eNewS m_Recipe__init [] (DP.aCons (DP.eV 2) (DP.aCons (DP.eV 3) (DP.aCons (DP.eV 9) DP.aNil))))))) DP.sNext)
    (DP.sSeq (DP.sSet 8 (DP.eCall m__read_step (DP.aCons (DP.eV 7) (DP.aCons (DP.eV 2) (DP.aCons (DP.eV 3) (DP.aCons (DP.eV 5) DP.aNil))))))
    (DP.sSeq (DP.sTryX subx_WrongKind (DP.sDrop (DP.eMut DP.appendM 4 (DP.aCons (DP.eCall m_kind_of_step (DP.aCons (DP.eV 8) (DP.aCons (DP.eV 4) DP.aNil))) DP.aNil))) (DP.sRaiseX "InvalidRecipe" "line" (DP.eV 5)))
    (DP.sDrop (DP.eMut DP.appendM 3 (DP.aCons (DP.eV 8) DP.aNil)))))))
local macro_rules | `(tactic| array_get_dec) => `(tactic| first
  | ((with_reducible apply x_tupX)
     · array_get_dec)
  | ((with_reducible apply x_consX)
     · array_get_dec)
  | ((with_reducible apply x_consX2)
     · array_get_dec
     · array_get_dec))
section
variable {L : Str} {steps : List D} {num : D}
theorem rs_all {s : Sk} (h : s.fr L) (hi : s.idx steps.length) (hl : steps.length ≤ 20) : m__read_step [.lst ((wordsS s).map D.str), .str L, .lst steps, num] = .ok (givD s) := by
  cases s with
  | letter c => exact rs_letter h.len h.inn hl
  | one => exact rs_one hl
  | const f n e t => exact rs_const h hl
  | scale f n e t i => exact rs_scale h hi hl
  | power i => exact rs_power hi hl
  | trace i => exact rs_trace hi hl
  | transpose i => exact rs_transpose hi hl
  | inverse i => exact rs_inverse hi hl
  | det i => exact rs_det hi hl
  | sum i j => exact rs_sum hi.1 hi.2 hl
  | diff i j => exact rs_diff hi.1 hi.2 hl
  | times i j => exact rs_times hi.1 hi.2 hl
theorem len4 (a b c d : D) : lenF [.lst [a, b, c, d]] = some (.val (.int 4)) := rfl
theorem bs_invert (hl : steps.length ≤ 20) : m__read_step [.lst [.str "invert", .str "0"], .str L, .lst steps, num] = .exc "InvalidRecipe" (exL num) := by
  have hN := lenN steps
  have hM := most_no hl
  have hL := len2 (.str "invert") (.str "0")
  have h0 := i0 (.str "invert") [.str "0"]
  have h1 := i1 (.str "invert") (.str "0") []
  exact run_excX rfl (show d__read_step [.sh (.lst [.str "invert", .str "0"]), .sh (.str L), .sh (.lst steps), .sh num, .no] = .exc "InvalidRecipe" (exL num) _ from by unfold d__read_step; array_get_dec)
theorem bs_one (hl : steps.length ≤ 20) : m__read_step [.lst [.str "one", .str ""], .str L, .lst steps, num] = .exc "InvalidRecipe" (exL num) := by
  have hN := lenN steps
  have hM := most_no hl
  have hL := len2 (.str "one") (.str "")
  have h0 := i0 (.str "one") [.str ""]
  have h1 := i1 (.str "one") (.str "") []
  exact run_excX rfl (show d__read_step [.sh (.lst [.str "one", .str ""]), .sh (.str L), .sh (.lst steps), .sh num, .no] = .exc "InvalidRecipe" (exL num) _ from by unfold d__read_step; array_get_dec)
theorem bs_sum (hl : steps.length ≤ 20) : m__read_step [.lst [.str "sum", .str "0"], .str L, .lst steps, num] = .exc "InvalidRecipe" (exL num) := by
  have hN := lenN steps
  have hM := most_no hl
  have hL := len2 (.str "sum") (.str "0")
  have h0 := i0 (.str "sum") [.str "0"]
  have h1 := i1 (.str "sum") (.str "0") []
  exact run_excX rfl (show d__read_step [.sh (.lst [.str "sum", .str "0"]), .sh (.str L), .sh (.lst steps), .sh num, .no] = .exc "InvalidRecipe" (exL num) _ from by unfold d__read_step; array_get_dec)
theorem bs_power (hl : steps.length ≤ 20) : m__read_step [.lst [.str "power", .str "0", .str "7"], .str L, .lst steps, num] = .exc "InvalidRecipe" (exL num) := by
  have hN := lenN steps
  have hM := most_no hl
  have hL := len3 (.str "power") (.str "0") (.str "7")
  have h0 := i0 (.str "power") [.str "0", .str "7"]
  have h1 := i1 (.str "power") (.str "0") [.str "7"]
  have h2 := i2 (.str "power") (.str "0") (.str "7") []
  have h7 : inF (.str "7") g__POWERS = some (.val (.bl false)) := by kernel_rfl
  exact run_excX rfl (show d__read_step [.sh (.lst [.str "power", .str "0", .str "7"]), .sh (.str L), .sh (.lst steps), .sh num, .no] = .exc "InvalidRecipe" (exL num) _ from by unfold d__read_step; array_get_dec)
theorem bs_letter (hin : inTF (.str "A") (.str L) = some (.val (.bl false))) (hl : steps.length ≤ 20) : m__read_step [.lst [.str "letter", .str "A"], .str L, .lst steps, num] = .exc "InvalidRecipe" (exL num) := by
  have hN := lenN steps
  have hM := most_no hl
  have hL := len2 (.str "letter") (.str "A")
  have h0 := i0 (.str "letter") [.str "A"]
  have h1 := i1 (.str "letter") (.str "A") []
  have hlen : lenTF [.str "A"] = some (.val (.int 1)) := by kernel_rfl
  exact run_excX rfl (show d__read_step [.sh (.lst [.str "letter", .str "A"]), .sh (.str L), .sh (.lst steps), .sh num, .no] = .exc "InvalidRecipe" (exL num) _ from by unfold d__read_step; array_get_dec)
theorem bs_times (hl : steps.length ≤ 20) : m__read_step [.lst [.str "times", .str "0", .str "", .str "0"], .str L, .lst steps, num] = .exc "InvalidRecipe" (exL num) := by
  have hN := lenN steps
  have hM := most_no hl
  have hL := len4 (.str "times") (.str "0") (.str "") (.str "0")
  have h0 := i0 (.str "times") [.str "0", .str "", .str "0"]
  have h1 := i1 (.str "times") (.str "0") [.str "", .str "0"]
  have h2 := i2 (.str "times") (.str "0") (.str "") [.str "0"]
  exact run_excX rfl (show d__read_step [.sh (.lst [.str "times", .str "0", .str "", .str "0"]), .sh (.str L), .sh (.lst steps), .sh num, .no] = .exc "InvalidRecipe" (exL num) _ from by unfold d__read_step; array_get_dec)
theorem bs_empty (hl : steps.length ≤ 20) : m__read_step [.lst [.str ""], .str L, .lst steps, num] = .exc "InvalidRecipe" (exL num) := by
  have hN := lenN steps
  have hM := most_no hl
  have hL := len1 (.str "")
  have h0 := i0 (.str "") []
  exact run_excX rfl (show d__read_step [.sh (.lst [.str ""]), .sh (.str L), .sh (.lst steps), .sh num, .no] = .exc "InvalidRecipe" (exL num) _ from by unfold d__read_step; array_get_dec)
theorem bs_trace {w : Str} (hw : okS w = true) (hx : ∀ i, i < steps.length → numS i ≠ w) (hl : steps.length ≤ 20) : m__read_step [.lst [.str "trace", .str w], .str L, .lst steps, num] = .exc "InvalidRecipe" (exL num) := by
  have hN := lenN steps
  have hM := most_no hl
  have hL := len2 (.str "trace") (.str w)
  have h0 := i0 (.str "trace") [.str w]
  have h1 := i1 (.str "trace") (.str w) []
  have hS := sl2 (.str "trace") (.str w)
  have hI := index_no (num := num) hw hl hx
  exact run_excX rfl (show d__read_step [.sh (.lst [.str "trace", .str w]), .sh (.str L), .sh (.lst steps), .sh num, .no] = .exc "InvalidRecipe" (exL num) _ from by unfold d__read_step; array_get_dec)
theorem bs_scale (hx : ∀ i, i < steps.length → numS i ≠ "00") (hl : steps.length ≤ 20) : m__read_step [.lst [.str "scale", .str "1", .str "00"], .str L, .lst steps, num] = .exc "InvalidRecipe" (exL num) := by
  have hN := lenN steps
  have hM := most_no hl
  have hL := len3 (.str "scale") (.str "1") (.str "00")
  have h0 := i0 (.str "scale") [.str "1", .str "00"]
  have h1 := i1 (.str "scale") (.str "1") [.str "00"]
  have h2 := i2 (.str "scale") (.str "1") (.str "00") []
  have hR := ratio_ok (num := num) read_1
  have hS := sl3b (.str "scale") (.str "1") (.str "00")
  have hI := index_no (w := "00") (num := num) (by decide +kernel) hl hx
  exact run_excX rfl (show d__read_step [.sh (.lst [.str "scale", .str "1", .str "00"]), .sh (.str L), .sh (.lst steps), .sh num, .no] = .exc "InvalidRecipe" (exL num) _ from by unfold d__read_step; array_get_dec)
theorem bs_const (hl : steps.length ≤ 20) : m__read_step [.lst [.str "const", .str "2/4"], .str L, .lst steps, num] = .exc "InvalidRecipe" (exL num) := by
  have hN := lenN steps
  have hM := most_no hl
  have hL := len2 (.str "const") (.str "2/4")
  have h0 := i0 (.str "const") [.str "2/4"]
  have h1 := i1 (.str "const") (.str "2/4") []
  have hR := ratio_no (num := num) read_24
  exact run_excX rfl (show d__read_step [.sh (.lst [.str "const", .str "2/4"]), .sh (.str L), .sh (.lst steps), .sh num, .no] = .exc "InvalidRecipe" (exL num) _ from by unfold d__read_step; array_get_dec)
end

/-! M27j: read_recipe's loop. -/
theorem split_is {l : Str} {ws : List Str} (h : Txt.split l " " = ws) (hl : l.length ≤ 1000) : splitF l (.str " ") = some (.fresh (.lst (ws.map D.str))) := by
  have e : (!((" " : Str).length == 0)) = true := by decide +kernel
  show (if (!((" " : Str).length == 0) && decide (l.length ≤ 1000000)) = true then of (.lst ((Txt.split l " ").map D.str)) else none) = _
  rw [if_pos (by rw [e, decide_eq_true (by omega)]; rfl), h]
  rfl
theorem cut_tail {α : Type} (a : α) (r : List α) : cut (a :: r) (some 1) none = r := by
  unfold cut sIx
  simp
theorem split_words {L : Str} {n : Nat} {s : Sk} (h : s.fr L) (hi : s.idx n) (hn : n ≤ 20) : Txt.split (lineS s) " " = wordsS s :=
  TL.split_join (s := 32) (S := []) (by decide +kernel) (by decide +kernel) (by cases s <;> exact List.cons_ne_nil _ _) fun w hw => (words_ok h hi hn w hw).sp
theorem first_word (s : Sk) : ∃ w r, wordsS s = w :: r ∧ eqF (.str w) (.str "give") = some (.val (.bl false)) := by
  cases s <;> exact ⟨_, _, rfl, by kernel_rfl⟩
theorem noMut_giv (s : Sk) : noMutI (givD s) = true := by cases s <;> rfl
def okSlot (s : Slot) : Bool := match s with
  | .ow (.ins _ _) => false
  | _ => true
theorem own_ok {t L : Str} {lines gs ws : List D} {ks : List Bool} {s5 s6 s8 s9 : Slot} (h5 : okSlot s5 = true) (h6 : okSlot s6 = true) (h8 : okSlot s8 = true) (h9 : okSlot s9 = true) : noOwnIns [.sh (.str t), .ow (.lst lines), .sh (.str L), .ow (.lst gs), .ow (KB ks), s5, s6, .ow (.lst ws), s8, s9] = true := by
  show (true && (true && (true && (true && (true && (okSlot s5 && (okSlot s6 && (true && (okSlot s8 && (okSlot s9 && true)))))))))) = true
  rw [h5, h6, h8, h9]
  rfl
section
variable {t L l : Str} {lines gs : List D} {ks : List Bool} {k : Bool} {num : Int} {s : Sk} {s7 s8 s9 : Slot}
theorem r_step (h : s.fr L) (hi : s.idx ks.length) (hk : kindOf ks s = some k) (hl : ks.length ≤ 20) (hg : gs.length = ks.length) (h8 : okSlot s8 = true) (h9 : okSlot s9 = true) :
    rBody [.sh (.str t), .ow (.lst lines), .sh (.str L), .ow (.lst gs), .ow (KB ks), .sh (.int num), .sh (.str (lineS s)), s7, s8, s9]
      = .next [.sh (.str t), .ow (.lst lines), .sh (.str L), .ow (.lst (gs ++ [givD s])), .ow (KB (ks ++ [k])), .sh (.int num), .sh (.str (lineS s)), .ow (.lst ((wordsS s).map D.str)), .sh (givD s), s9] := by
  have hs := split_is (split_words h hi hl) (Nat.le_trans (line_ok h hi hl).ln (by decide))
  obtain ⟨w, r, hw, hne⟩ := first_word s
  have hr := rs_all (steps := gs) (num := .int num) h (by rw [hg]; exact hi) (by omega)
  have hc : m_kind_of_step [givD s, KB ks] = .ok (.str (kS k)) := by rw [kind_eval s ks hi, hk]; rfl
  have hA : appendM (KB ks) [.str (kS k)] = some (.non, KB (ks ++ [k])) := by
    rw [KB_snoc]
    exact apN (by rw [List.length_map]; omega) _
  have hB : appendM (.lst gs) [givD s] = some (.non, .lst (gs ++ [givD s])) := apN (by omega) _
  have hX : ixF (.lst ((wordsS s).map D.str)) (.int 0) = some (.val (.str w)) := by rw [hw]; exact i0 _ _
  unfold rBody
  refine x_seq (x_setf (x_m1 (x_sh rfl) rfl x_eC rfl hs)) ?_
  refine x_seq (x_sIfF (x_tE (x_bin (x_bin (x_ow rfl) x_eC rfl rfl hX) x_eC rfl rfl hne)) rfl) ?_
  refine x_seq (x_setv (x_call2 (x_cons (x_ow rfl) (x_cons (x_sh rfl) (x_cons (x_ow rfl) (x_cons (x_sh rfl) x_nil)))) rfl hr (cc_ins (by rw [noMut_giv]; exact own_ok rfl rfl h8 h9)))) ?_
  refine x_seq (x_tryN (x_drop (x_mut rfl (x_cons (x_call2 (x_cons (x_sh rfl) (x_cons (x_ow rfl) x_nil)) rfl hc (cc_mut rfl)) x_nil) rfl rfl hA))) ?_
  exact x_drop (x_mut rfl (x_cons (x_sh rfl) x_nil) rfl rfl hB)
/-- a line whose step is refused -/
theorem r_bad {ws : List Str} {w : Str} {r : List Str} (hs : Txt.split l " " = ws) (hl : l.length ≤ 1000) (hw : ws = w :: r) (hne : eqF (.str w) (.str "give") = some (.val (.bl false))) (hr : m__read_step [.lst (ws.map D.str), .str L, .lst gs, .int num] = .exc "InvalidRecipe" (exL (.int num))) :
    ∃ Γ, rBody [.sh (.str t), .ow (.lst lines), .sh (.str L), .ow (.lst gs), .ow (KB ks), .sh (.int num), .sh (.str l), s7, s8, s9] = .exc "InvalidRecipe" (exL (.int num)) Γ := by
  have hX : ixF (.lst (ws.map D.str)) (.int 0) = some (.val (.str w)) := by rw [hw]; exact i0 _ _
  refine ⟨[.sh (.str t), .ow (.lst lines), .sh (.str L), .ow (.lst gs), .ow (KB ks), .sh (.int num), .sh (.str l), .ow (.lst (ws.map D.str)), s8, s9], ?_⟩
  unfold rBody
  refine x_seq (x_setf (x_m1 (x_sh rfl) rfl x_eC rfl (split_is hs hl))) ?_
  refine x_seq (x_sIfF (x_tE (x_bin (x_bin (x_ow rfl) x_eC rfl rfl hX) x_eC rfl rfl hne)) rfl) ?_
  refine x_seqX ?_
  have e := x_call2 (Γ := [.sh (.str t), .ow (.lst lines), .sh (.str L), .ow (.lst gs), .ow (KB ks), .sh (.int num), .sh (.str l), .ow (.lst (ws.map D.str)), s8, s9]) (x_cons (x_ow (i := 7) rfl) (x_cons (x_sh (i := 2) rfl) (x_cons (x_ow (i := 3) rfl) (x_cons (x_sh (i := 5) rfl) x_nil)))) rfl hr (cc_exc rfl)
  unfold sSet
  refine Eq.trans (congrArg (fun r => R.toSB r (setR 8)) e) ?_
  exact st_x
/-- a line whose step has no kind -/
theorem r_badK {s : Sk} (h : s.fr L) (hi : s.idx ks.length) (hk : kindOf ks s = none) (hl : ks.length ≤ 20) (hg : gs.length = ks.length) (h8 : okSlot s8 = true) (h9 : okSlot s9 = true) :
    ∃ Γ, rBody [.sh (.str t), .ow (.lst lines), .sh (.str L), .ow (.lst gs), .ow (KB ks), .sh (.int num), .sh (.str (lineS s)), s7, s8, s9] = .exc "InvalidRecipe" (exL (.int num)) Γ := by
  have hs := split_is (split_words h hi hl) (Nat.le_trans (line_ok h hi hl).ln (by decide))
  obtain ⟨w, r, hw, hne⟩ := first_word s
  have hr := rs_all (steps := gs) (num := .int num) h (by rw [hg]; exact hi) (by omega)
  have hc : m_kind_of_step [givD s, KB ks] = .exc "WrongKind" [] := by rw [kind_eval s ks hi, hk]; rfl
  have hX : ixF (.lst ((wordsS s).map D.str)) (.int 0) = some (.val (.str w)) := by rw [hw]; exact i0 _ _
  refine ⟨[.sh (.str t), .ow (.lst lines), .sh (.str L), .ow (.lst gs), .ow (KB ks), .sh (.int num), .sh (.str (lineS s)), .ow (.lst ((wordsS s).map D.str)), .sh (givD s), s9], ?_⟩
  unfold rBody
  refine x_seq (x_setf (x_m1 (x_sh rfl) rfl x_eC rfl hs)) ?_
  refine x_seq (x_sIfF (x_tE (x_bin (x_bin (x_ow rfl) x_eC rfl rfl hX) x_eC rfl rfl hne)) rfl) ?_
  refine x_seq (x_setv (x_call2 (x_cons (x_ow rfl) (x_cons (x_sh rfl) (x_cons (x_ow rfl) (x_cons (x_sh rfl) x_nil)))) rfl hr (cc_ins (by rw [noMut_giv]; exact own_ok rfl rfl h8 h9)))) ?_
  have e := x_call2 (Γ := [.sh (.str t), .ow (.lst lines), .sh (.str L), .ow (.lst gs), .ow (KB ks), .sh (.int num), .sh (.str (lineS s)), .ow (.lst ((wordsS s).map D.str)), .sh (givD s), s9]) (x_cons (x_sh (i := 8) rfl) (x_cons (x_ow (i := 4) rfl) x_nil)) rfl hc (cc_exc rfl)
  exact x_seqX (x_tryT (x_dropX (x_mutX rfl (x_consX e))) rfl (x_raiseX (x_sh rfl) rfl))
/-- the line give i -/
theorem r_give {ws : List Str} (hs : Txt.split l " " = ("give" : Str) :: ws) (hl : l.length ≤ 1000) {i : Int} (hI : m__read_index [.lst (ws.map D.str), .lst gs, .int num] = .ok (.int i)) {r : SR}
    (hr : (sSeq (DP.sIf (DP.tE (DP.eBin DP.ltF (DP.eV 5) (DP.eCB DP.lenF (DP.aCons (DP.eV 1) DP.aNil)))) (DP.sRaiseX "InvalidRecipe" "line" (DP.eBin DP.addF (DP.eV 5) (DP.eC (.int 1)))) DP.sNext) (DP.sRet (DP.eNewS m_Recipe__init [] (DP.aCons (DP.eV 2) (DP.aCons (DP.eV 3) (DP.aCons (DP.eV 9) DP.aNil)))))) [.sh (.str t), .ow (.lst lines), .sh (.str L), .ow (.lst gs), .ow (KB ks), .sh (.int num), .sh (.str l), .ow (.lst ((("give" : Str) :: ws).map D.str)), s8, .sh (.int i)] = r) (hx : ∀ Γ, r ≠ .next Γ) :
    rBody [.sh (.str t), .ow (.lst lines), .sh (.str L), .ow (.lst gs), .ow (KB ks), .sh (.int num), .sh (.str l), s7, s8, s9] = r := by
  have hX : ixF (.lst ((("give" : Str) :: ws).map D.str)) (.int 0) = some (.val (.str "give")) := i0 _ _
  have hne : eqF (.str "give") (.str "give") = some (.val (.bl true)) := by kernel_rfl
  have hS : slF (.lst ((("give" : Str) :: ws).map D.str)) (some 1) none = some (.fresh (.lst (ws.map D.str))) := by
    show of (.lst (cut ((("give" : Str) :: ws).map D.str) (some 1) none)) = _
    rw [show cut ((("give" : Str) :: ws).map D.str) (some 1) none = ws.map D.str from cut_tail _ _]
    rfl
  unfold rBody
  refine x_seq (x_setf (x_m1 (x_sh rfl) rfl x_eC rfl (split_is hs hl))) ?_
  have e : sSet 9 (DP.eCall m__read_index (DP.aCons (DP.eSl DP.slF (DP.eV 7) (DP.pE (DP.eC (.int 1))) DP.pNo) (DP.aCons (DP.eV 3) (DP.aCons (DP.eV 5) DP.aNil)))) [.sh (.str t), .ow (.lst lines), .sh (.str L), .ow (.lst gs), .ow (KB ks), .sh (.int num), .sh (.str l), .ow (.lst ((("give" : Str) :: ws).map D.str)), s8, s9] = .next [.sh (.str t), .ow (.lst lines), .sh (.str L), .ow (.lst gs), .ow (KB ks), .sh (.int num), .sh (.str l), .ow (.lst ((("give" : Str) :: ws).map D.str)), s8, .sh (.int i)] :=
    x_setv (x_call2 (x_cons (x_sl (x_ow rfl) (x_pE x_eC) x_pNo rfl hS) (x_cons (x_ow rfl) (x_cons (x_sh rfl) x_nil))) rfl hI (cc_mut rfl))
  have e2 := x_sIfT (b := DP.sNext) (x_tE (x_bin (x_bin (x_ow (Γ := [.sh (.str t), .ow (.lst lines), .sh (.str L), .ow (.lst gs), .ow (KB ks), .sh (.int num), .sh (.str l), .ow (.lst ((("give" : Str) :: ws).map D.str)), s8, s9]) (i := 7) rfl) x_eC rfl rfl hX) x_eC rfl rfl hne)) (x_seq e hr)
  refine Eq.trans (x_seq2 e2 rfl) ?_
  cases r with
  | next Γ => exact absurd rfl (hx Γ)
  | _ => rfl
/-- give, and no such place -/
theorem r_giveX {ws : List Str} (hs : Txt.split l " " = ("give" : Str) :: ws) (hl : l.length ≤ 1000) (hI : m__read_index [.lst (ws.map D.str), .lst gs, .int num] = .exc "InvalidRecipe" (exL (.int num))) :
    ∃ Γ, rBody [.sh (.str t), .ow (.lst lines), .sh (.str L), .ow (.lst gs), .ow (KB ks), .sh (.int num), .sh (.str l), s7, s8, s9] = .exc "InvalidRecipe" (exL (.int num)) Γ := by
  have hX : ixF (.lst ((("give" : Str) :: ws).map D.str)) (.int 0) = some (.val (.str "give")) := i0 _ _
  have hne : eqF (.str "give") (.str "give") = some (.val (.bl true)) := by kernel_rfl
  have hS : slF (.lst ((("give" : Str) :: ws).map D.str)) (some 1) none = some (.fresh (.lst (ws.map D.str))) := by
    show of (.lst (cut ((("give" : Str) :: ws).map D.str) (some 1) none)) = _
    rw [show cut ((("give" : Str) :: ws).map D.str) (some 1) none = ws.map D.str from cut_tail _ _]
    rfl
  refine ⟨[.sh (.str t), .ow (.lst lines), .sh (.str L), .ow (.lst gs), .ow (KB ks), .sh (.int num), .sh (.str l), .ow (.lst ((("give" : Str) :: ws).map D.str)), s8, s9], ?_⟩
  unfold rBody
  refine x_seq (x_setf (x_m1 (x_sh rfl) rfl x_eC rfl (split_is hs hl))) ?_
  have e : sSet 9 (DP.eCall m__read_index (DP.aCons (DP.eSl DP.slF (DP.eV 7) (DP.pE (DP.eC (.int 1))) DP.pNo) (DP.aCons (DP.eV 3) (DP.aCons (DP.eV 5) DP.aNil)))) [.sh (.str t), .ow (.lst lines), .sh (.str L), .ow (.lst gs), .ow (KB ks), .sh (.int num), .sh (.str l), .ow (.lst ((("give" : Str) :: ws).map D.str)), s8, s9] = .exc "InvalidRecipe" (exL (.int num)) [.sh (.str t), .ow (.lst lines), .sh (.str L), .ow (.lst gs), .ow (KB ks), .sh (.int num), .sh (.str l), .ow (.lst ((("give" : Str) :: ws).map D.str)), s8, s9] := by
    unfold sSet
    refine Eq.trans (congrArg (fun r => R.toSB r (setR 9)) (x_call2 (x_cons (x_sl (x_ow rfl) (x_pE x_eC) x_pNo rfl hS) (x_cons (x_ow rfl) (x_cons (x_sh rfl) x_nil))) rfl hI (cc_exc rfl))) ?_
    exact st_x
  have e2 := x_sIfT (b := DP.sNext) (x_tE (x_bin (x_bin (x_ow (Γ := [.sh (.str t), .ow (.lst lines), .sh (.str L), .ow (.lst gs), .ow (KB ks), .sh (.int num), .sh (.str l), .ow (.lst ((("give" : Str) :: ws).map D.str)), s8, s9]) (i := 7) rfl) x_eC rfl rfl hX) x_eC rfl rfl hne)) (x_seqX (b := (sSeq (DP.sIf (DP.tE (DP.eBin DP.ltF (DP.eV 5) (DP.eCB DP.lenF (DP.aCons (DP.eV 1) DP.aNil)))) (DP.sRaiseX "InvalidRecipe" "line" (DP.eBin DP.addF (DP.eV 5) (DP.eC (.int 1)))) DP.sNext) (DP.sRet (DP.eNewS m_Recipe__init [] (DP.aCons (DP.eV 2) (DP.aCons (DP.eV 3) (DP.aCons (DP.eV 9) DP.aNil))))))) e)
  exact x_seqX e2
end

/-! M27k: read_recipe. -/
section
variable {t L l0 : Str} {lines : List D}
theorem enumD_app : ∀ (a b : List D) (n : Int), enumD n (a ++ b) = enumD n a ++ enumD (n + a.length) b
  | [], b, n => by
    show enumD n b = enumD (n + ((0 : Nat) : Int)) b
    rw [Int.natCast_zero, Int.add_zero]
  | x :: a, b, n => by
    show D.tup [.int n, x] :: enumD (n + 1) (a ++ b) = D.tup [.int n, x] :: (enumD (n + 1) a ++ enumD (n + ((a.length + 1 : Nat) : Int)) b)
    rw [enumD_app a b, show n + 1 + (a.length : Int) = n + ((a.length + 1 : Nat) : Int) by omega]
theorem v_loop {s9 : Slot} (h9 : okSlot s9 = true) : ∀ (ss : List Sk) {ks ks' : List Bool} (gs : List D) (num : Int) (q : List D) (s5 s6 s7 s8 : Slot), VF L ks ss ks' → ks'.length ≤ 20 → gs.length = ks.length → okSlot s8 = true →
    ∃ s5' s6' s7' s8', okSlot s8' = true ∧ forLoop (gT [5, 6]) rBody (enumD num ((ss.map fun s => D.str (lineS s)) ++ q)) [.sh (.str t), .ow (.lst lines), .sh (.str L), .ow (.lst gs), .ow (KB ks), s5, s6, s7, s8, s9]
      = forLoop (gT [5, 6]) rBody (enumD (num + ss.length) q) [.sh (.str t), .ow (.lst lines), .sh (.str L), .ow (.lst (gs ++ ss.map givD)), .ow (KB ks'), s5', s6', s7', s8', s9]
  | [], ks, ks', gs, num, q, s5, s6, s7, s8, h, _, _, h8 => by
    have h : ks' = ks := h
    refine ⟨s5, s6, s7, s8, h8, ?_⟩
    rw [h, List.map_nil, List.map_nil, List.append_nil, show num + (([] : List Sk).length : Int) = num from Int.add_zero _]
    rfl
  | s :: r, ks, ks', gs, num, q, s5, s6, s7, s8, ⟨a, b, k, c, h⟩, hl, hg, h8 => by
    have e := h.len
    rw [List.length_append] at e
    have e : ks'.length = ks.length + 1 + r.length := e
    obtain ⟨s5', s6', s7', s8', h8', h2⟩ := v_loop h9 r (gs ++ [givD s]) (num + 1) q (.sh (.int num)) (.sh (.str (lineS s))) (.ow (.lst ((wordsS s).map D.str))) (.sh (givD s)) h hl (by rw [List.length_append, List.length_append, hg]; rfl) rfl
    refine ⟨s5', s6', s7', s8', h8', ?_⟩
    rw [List.append_assoc, show num + 1 + (r.length : Int) = num + ((s :: r).length : Int) by rw [List.length_cons]; omega] at h2
    exact f_next rfl (r_step a b c (by omega) hg h8 h9) h2
def srRes : SR → Option Res
  | .ret d => some (.ok d)
  | .exc c fs _ => some (.exc c fs)
  | _ => none
theorem x_iEnumFrom {k : Nat} {a : E} {Γ Γ1 : Env} {xs : List D} (h : a Γ = .ok (.fresh (.lst xs)) Γ1) : iEnumFrom k a Γ = .ok (enumD k xs) Γ1 := by
  unfold iEnumFrom
  rw [h]
  rfl
theorem res_run {np n : Nat} {b : DP.S} {ds : List D} {r : Res} (hl : ds.length = np) (h : srRes (b (startEnv n ds)) = some r) : runDef np n b ds = r := by
  unfold runDef
  rw [if_pos hl]
  cases e : b (startEnv n ds) with
  | ret d => rw [e] at h; exact Option.some.inj h
  | exc c fs Γ => rw [e] at h; exact Option.some.inj h
  | next Γ => rw [e] at h; cases h
  | brk Γ => rw [e] at h; cases h
  | cont Γ => rw [e] at h; cases h
  | stuck => rw [e] at h; cases h
theorem splitL_is {ls : List Str} (h : Txt.split t "\n" = ls) (hl : t.length ≤ 1000000) : splitF t (.str "\n") = some (.fresh (.lst (ls.map D.str))) := by
  have e : (!(("\n" : Str).length == 0)) = true := by decide +kernel
  show (if (!(("\n" : Str).length == 0) && decide (t.length ≤ 1000000)) = true then of (.lst ((Txt.split t "\n").map D.str)) else none) = _
  rw [if_pos (by rw [e, decide_eq_true hl]; rfl), h]
  rfl
theorem seq_of_ret {a b : DP.S} {Γ : Env} {r : Res} (h : srRes (a Γ) = some r) : srRes (sSeq a b Γ) = some r := by
  unfold sSeq
  cases e : a Γ with
  | next Γ1 => rw [e] at h; cases h
  | _ => rw [e] at h; exact h
/-- what lies behind valid lines decides -/
theorem read_gen {ss : List Sk} {q : List Str} {ks : List Bool} {r : Res} (hsp : Txt.split t "\n" = l0 :: (ss.map lineS ++ q)) (ht : t.length ≤ 1000000) (hL : m__read_letters [.str l0] = .ok (.str L)) (hv : VF L [] ss ks) (hk : ks.length ≤ 20)
    (hz : ∀ s5 s6 s7 s8, okSlot s8 = true → srRes (forLoop (gT [5, 6]) rBody (enumD (2 + ss.length) (q.map D.str)) [.sh (.str t), .ow (.lst ((l0 :: (ss.map lineS ++ q)).map D.str)), .sh (.str L), .ow (.lst (ss.map givD)), .ow (KB ks), s5, s6, s7, s8, .no]) = some r) : m_read_recipe [.str t] = r := by
  obtain ⟨s5', s6', s7', s8', h8', h2⟩ := v_loop (t := t) (L := L) (lines := (l0 :: (ss.map lineS ++ q)).map D.str) (s9 := .no) rfl ss [] 2 (q.map D.str) .no .no .no .no hv hk rfl rfl
  have h3 := hz s5' s6' s7' s8' h8'
  rw [List.nil_append] at h2
  rw [← h2] at h3
  have hS : slF (.lst ((l0 :: (ss.map lineS ++ q)).map D.str)) (some 1) none = some (.fresh (.lst ((ss.map fun s => D.str (lineS s)) ++ q.map D.str))) := by
    show of (.lst (cut ((l0 :: (ss.map lineS ++ q)).map D.str) (some 1) none)) = _
    rw [List.map_cons, cut_tail, List.map_append, List.map_map]
    rfl
  refine res_run rfl ?_
  show srRes (d_read_recipe [.sh (.str t), .no, .no, .no, .no, .no, .no, .no, .no, .no]) = _
  unfold rBody at h3
  unfold d_read_recipe
  refine Eq.trans (congrArg srRes (x_seq (x_setf (x_m1 (x_sh rfl) rfl x_eC rfl (splitL_is hsp ht))) rfl)) ?_
  refine Eq.trans (congrArg srRes (x_seq (x_setv (x_call2 (x_cons (x_bin (x_ow rfl) x_eC rfl rfl (i0 _ _)) x_nil) rfl hL (cc_no rfl))) rfl)) ?_
  refine Eq.trans (congrArg srRes (x_seq (x_setf (x_lst x_nil rfl (by decide))) rfl)) ?_
  refine Eq.trans (congrArg srRes (x_seq (x_setf (x_lst x_nil rfl (by decide))) rfl)) ?_
  refine seq_of_ret ?_
  refine Eq.trans (congrArg srRes (x_for (x_iEnumFrom (x_sl (x_ow rfl) (x_pE x_eC) x_pNo rfl hS)) rfl)) ?_
  exact h3
/-- nothing behind valid lines -/
theorem read_end {ss : List Sk} {ks : List Bool} (hsp : Txt.split t "\n" = l0 :: ss.map lineS) (ht : t.length ≤ 1000000) (hL : m__read_letters [.str l0] = .ok (.str L)) (hv : VF L [] ss ks) (hk : ks.length ≤ 20) : m_read_recipe [.str t] = .exc "InvalidRecipe" (exL (.int ((ss.length + 2 : Nat) : Int))) := by
  obtain ⟨s5', s6', s7', s8', h8', h2⟩ := v_loop (t := t) (L := L) (lines := (l0 :: ss.map lineS).map D.str) (s9 := .no) rfl ss [] 2 [] .no .no .no .no hv hk rfl rfl
  rw [List.nil_append, List.append_nil] at h2
  have hS : slF (.lst ((l0 :: ss.map lineS).map D.str)) (some 1) none = some (.fresh (.lst (ss.map fun s => D.str (lineS s)))) := by
    show of (.lst (cut ((l0 :: ss.map lineS).map D.str) (some 1) none)) = _
    rw [List.map_cons, cut_tail, List.map_map]
    rfl
  have hN : lenF [.lst ((l0 :: ss.map lineS).map D.str)] = some (.val (.int ((ss.length + 1 : Nat) : Int))) := by
    rw [lenN, List.length_map, List.length_cons, List.length_map]
  have hA : addF (.int ((ss.length + 1 : Nat) : Int)) (.int 1) = some (.val (.int ((ss.length + 2 : Nat) : Int))) := rfl
  refine res_run rfl ?_
  show srRes (d_read_recipe [.sh (.str t), .no, .no, .no, .no, .no, .no, .no, .no, .no]) = _
  unfold rBody at h2
  unfold d_read_recipe
  refine Eq.trans (congrArg srRes (x_seq (x_setf (x_m1 (x_sh rfl) rfl x_eC rfl (splitL_is hsp ht))) rfl)) ?_
  refine Eq.trans (congrArg srRes (x_seq (x_setv (x_call2 (x_cons (x_bin (x_ow rfl) x_eC rfl rfl (i0 _ _)) x_nil) rfl hL (cc_no rfl))) rfl)) ?_
  refine Eq.trans (congrArg srRes (x_seq (x_setf (x_lst x_nil rfl (by decide))) rfl)) ?_
  refine Eq.trans (congrArg srRes (x_seq (x_setf (x_lst x_nil rfl (by decide))) rfl)) ?_
  refine Eq.trans (congrArg srRes (x_seq (x_for (x_iEnumFrom (x_sl (x_ow rfl) (x_pE x_eC) x_pNo rfl hS)) h2) rfl)) ?_
  exact congrArg srRes (x_raiseX (x_bin (x_cb (x_cons (x_ow rfl) x_nil) rfl hN) x_eC rfl rfl hA) rfl)
/-- the first line is refused -/
theorem read_no0 {rest : List Str} (hsp : Txt.split t "\n" = l0 :: rest) (ht : t.length ≤ 1000000) (hL : m__read_letters [.str l0] = .exc "InvalidRecipe" (exL (.int 1))) : m_read_recipe [.str t] = .exc "InvalidRecipe" (exL (.int 1)) := by
  refine res_run rfl ?_
  show srRes (d_read_recipe [.sh (.str t), .no, .no, .no, .no, .no, .no, .no, .no, .no]) = _
  unfold d_read_recipe
  refine Eq.trans (congrArg srRes (x_seq (x_setf (x_m1 (x_sh rfl) rfl x_eC rfl (splitL_is hsp ht))) rfl)) ?_
  refine seq_of_ret ?_
  unfold sSet
  exact congrArg srRes (Eq.trans (congrArg (fun r => R.toSB r (setR 2)) (x_call2 (x_cons (x_bin (x_ow rfl) x_eC rfl rfl (i0 _ _)) x_nil) rfl hL (cc_exc rfl))) st_x)
/-- a bad line behind valid ones, anything behind it -/
theorem read_bad {ss : List Sk} {l : Str} {rest : List Str} {ks : List Bool} (hsp : Txt.split t "\n" = l0 :: (ss.map lineS ++ l :: rest)) (ht : t.length ≤ 1000000) (hL : m__read_letters [.str l0] = .ok (.str L)) (hv : VF L [] ss ks) (hk : ks.length ≤ 20)
    (hb : ∀ (lines : List D) (s7 s8 : Slot), okSlot s8 = true → ∃ Γ, rBody [.sh (.str t), .ow (.lst lines), .sh (.str L), .ow (.lst (ss.map givD)), .ow (KB ks), .sh (.int (2 + ss.length)), .sh (.str l), s7, s8, .no] = .exc "InvalidRecipe" (exL (.int (2 + ss.length))) Γ) : m_read_recipe [.str t] = .exc "InvalidRecipe" (exL (.int ((ss.length + 2 : Nat) : Int))) := by
  refine read_gen hsp ht hL hv hk fun s5 s6 s7 s8 h8 => ?_
  obtain ⟨Γ, hΓ⟩ := hb ((l0 :: (ss.map lineS ++ l :: rest)).map D.str) s7 s8 h8
  rw [List.map_cons]
  rw [show (2 + (ss.length : Int)) = ((ss.length + 2 : Nat) : Int) by omega] at hΓ ⊢
  exact congrArg srRes (f_exc (d := .tup [.int ((ss.length + 2 : Nat) : Int), .str l]) rfl hΓ)
/-- the line give i -/
theorem read_give {ss : List Sk} {ks : List Bool} {res : Nat} {rest : List Str} (hsp : Txt.split t "\n" = l0 :: (ss.map lineS ++ numL res :: rest)) (ht : t.length ≤ 1000000) (hL : m__read_letters [.str l0] = .ok (.str L)) (hv : VF L [] ss ks) (hk : ks.length ≤ 20) (hr : res < ks.length) : m_read_recipe [.str t] = if rest.length = 0 then .ok (recD L ss ks res) else .exc "InvalidRecipe" (exL (.int ((ss.length + 3 : Nat) : Int))) := by
  have hlen := hv.len
  have hlen : ks.length = 0 + ss.length := hlen
  refine read_gen hsp ht hL hv hk fun s5 s6 s7 s8 h8 => ?_
  have hws : Txt.split (numL res) " " = ("give" : Str) :: [numS res] := by
    have e : numL res = Txt.join " " ["give", numS res] := by
      rw [TL.join_eq]
      have e2 : Str.join " " ["give", numS res] = (("give" : Str) ++ " ") ++ numS res := rfl
      rw [e2, show ("give" : Str) ++ " " = "give " by kernel_rfl]
      rfl
    rw [e]
    refine TL.split_join (s := 32) (S := []) (by decide +kernel) (by decide +kernel) (by simp) fun w hw => ?_
    rcases List.mem_cons.mp hw with rfl | hw
    · decide +kernel
    · rw [List.mem_singleton.mp hw]
      exact (numS_free res (by omega)).1
  have hI := index_ok (steps := ss.map givD) (i := res) (num := .int (2 + ss.length)) (by rw [List.length_map]; omega) (by rw [List.length_map]; omega)
  have hN : lenF [.lst ((l0 :: (ss.map lineS ++ numL res :: rest)).map D.str)] = some (.val (.int ((ss.length + 2 + rest.length : Nat) : Int))) := by
    rw [lenN, List.length_map, List.length_cons, List.length_append, List.length_map, List.length_cons, show ss.length + (rest.length + 1) + 1 = ss.length + 2 + rest.length by omega]
  have hA : addF (.int (2 + (ss.length : Int))) (.int 1) = some (.val (.int ((ss.length + 3 : Nat) : Int))) := by
    show ov (.int (2 + (ss.length : Int) + 1)) = _
    rw [show 2 + (ss.length : Int) + 1 = ((ss.length + 3 : Nat) : Int) by omega]
    rfl
  have hlt := x_lt (i := 2 + (ss.length : Int)) (j := ((ss.length + 2 + rest.length : Nat) : Int)) rfl
  rw [List.map_cons]
  by_cases h0 : rest.length = 0
  · rw [if_pos h0]
    rw [decide_eq_false (by omega)] at hlt
    have hR := recipe_ok hv (by omega) hr
    refine congrArg srRes (f_ret (x := recD L ss ks res) (d := .tup [.int (2 + (ss.length : Int)), .str (numL res)]) rfl (r_give (i := (res : Nat)) hws (Nat.le_trans (giveL_ok (by omega)).ln (by decide)) hI ?_ fun Γ h => by cases h))
    refine x_seq (x_sIfF (x_tE (x_bin (x_sh rfl) (x_cb (x_cons (x_ow rfl) x_nil) rfl hN) rfl rfl hlt)) rfl) ?_
    exact x_ret (x_new (dd := []) (x_cons (x_sh rfl) (x_cons (x_ow rfl) (x_cons (x_sh rfl) x_nil))) rfl (by rw [List.append_nil]; exact hR)) rfl
  · rw [if_neg h0]
    rw [decide_eq_true (by omega)] at hlt
    refine congrArg srRes (f_exc (d := .tup [.int (2 + (ss.length : Int)), .str (numL res)]) (c := "InvalidRecipe") (fs := exL (.int ((ss.length + 3 : Nat) : Int))) (Γ2 := [.sh (.str t), .ow (.lst ((l0 :: (ss.map lineS ++ numL res :: rest)).map D.str)), .sh (.str L), .ow (.lst (ss.map givD)), .ow (KB ks), .sh (.int (2 + (ss.length : Int))), .sh (.str (numL res)), .ow (.lst ((("give" : Str) :: [numS res]).map D.str)), s8, .sh (.int (res : Nat))]) rfl (r_give (i := (res : Nat)) hws (Nat.le_trans (giveL_ok (by omega)).ln (by decide)) hI ?_ fun Γ h => by cases h))
    exact x_seqX (x_sIfT (x_tE (x_bin (x_sh rfl) (x_cb (x_cons (x_ow rfl) x_nil) rfl hN) rfl rfl hlt)) (x_raiseX (x_bin (x_sh rfl) x_eC rfl rfl hA) rfl))
end

/-! M27l: bad lines. -/
def BadL (L : Str) (ss : List Sk) (ks : List Bool) (l : Str) : Prop := LineOk l ∧ ∀ (t : Str) (lines : List D) (s7 s8 : Slot), okSlot s8 = true → ∃ Γ, rBody [.sh (.str t), .ow (.lst lines), .sh (.str L), .ow (.lst (ss.map givD)), .ow (KB ks), .sh (.int (2 + ss.length)), .sh (.str l), s7, s8, .no] = .exc "InvalidRecipe" (exL (.int (2 + ss.length))) Γ
section
variable {L : Str} {ss : List Sk} {ks : List Bool}
theorem bad_of {l : Str} {ws : List Str} {w : Str} {r : List Str} (h : LineOk l) (hs : Txt.split l " " = ws) (hw : ws = w :: r) (hne : eqF (.str w) (.str "give") = some (.val (.bl false))) (hr : m__read_step [.lst (ws.map D.str), .str L, .lst (ss.map givD), .int (2 + ss.length)] = .exc "InvalidRecipe" (exL (.int (2 + ss.length)))) : BadL L ss ks l :=
  ⟨h, fun t lines s7 s8 _ => r_bad hs (Nat.le_trans h.ln (by decide)) hw hne hr⟩
theorem lit_line {l : Str} (h1 : 10 ∉ l.cps.toList) (h2 : l.length ≤ 100) : LineOk l := ⟨h1, h2⟩
theorem sp_invert : Txt.split "invert 0" " " = (["invert", "0"] : List Str) := by kernel_rfl
theorem sp_scale : Txt.split "scale 1 00" " " = (["scale", "1", "00"] : List Str) := by kernel_rfl
theorem sp_const : Txt.split "const 2/4" " " = (["const", "2/4"] : List Str) := by kernel_rfl
theorem sp_one : Txt.split "one " " " = (["one", ""] : List Str) := by kernel_rfl
theorem sp_sum : Txt.split "sum 0" " " = (["sum", "0"] : List Str) := by kernel_rfl
theorem sp_power : Txt.split "power 0 7" " " = (["power", "0", "7"] : List Str) := by kernel_rfl
theorem sp_letter : Txt.split "letter A" " " = (["letter", "A"] : List Str) := by kernel_rfl
theorem sp_times : Txt.split "times 0  0" " " = (["times", "0", "", "0"] : List Str) := by kernel_rfl
theorem sp_give1 : Txt.split "give -1" " " = (["give", "-1"] : List Str) := by kernel_rfl
theorem sp_givex : Txt.split "give x" " " = (["give", "x"] : List Str) := by kernel_rfl
theorem sp_empty : Txt.split "" " " = ([""] : List Str) := by kernel_rfl
theorem num_not : ∀ i < 20, numS i ≠ "00" ∧ numS i ≠ "-1" ∧ numS i ≠ "x" := by decide +kernel
theorem two_words (w x : Str) : Txt.join " " [w, x] = (w ++ " ") ++ x := by
  rw [TL.join_eq]
  rfl
theorem b0 (hl : ss.length ≤ 20) : BadL L ss ks "invert 0" := bad_of (lit_line (by decide +kernel) (by decide +kernel)) sp_invert rfl (by kernel_rfl) (bs_invert (by rw [List.length_map]; exact hl))
theorem b2 (hl : ss.length ≤ 20) : BadL L ss ks "scale 1 00" := bad_of (lit_line (by decide +kernel) (by decide +kernel)) sp_scale rfl (by kernel_rfl) (bs_scale (fun i hi => (num_not i (by rw [List.length_map] at hi; omega)).1) (by rw [List.length_map]; exact hl))
theorem b3 (hl : ss.length ≤ 20) : BadL L ss ks "const 2/4" := bad_of (lit_line (by decide +kernel) (by decide +kernel)) sp_const rfl (by kernel_rfl) (bs_const (by rw [List.length_map]; exact hl))
theorem b4 (hl : ss.length ≤ 20) : BadL L ss ks "one " := bad_of (lit_line (by decide +kernel) (by decide +kernel)) sp_one rfl (by kernel_rfl) (bs_one (by rw [List.length_map]; exact hl))
theorem b5 (hl : ss.length ≤ 20) : BadL L ss ks "sum 0" := bad_of (lit_line (by decide +kernel) (by decide +kernel)) sp_sum rfl (by kernel_rfl) (bs_sum (by rw [List.length_map]; exact hl))
theorem b6 (hl : ss.length ≤ 20) : BadL L ss ks "power 0 7" := bad_of (lit_line (by decide +kernel) (by decide +kernel)) sp_power rfl (by kernel_rfl) (bs_power (by rw [List.length_map]; exact hl))
theorem b7 (hA : inTF (.str "A") (.str L) = some (.val (.bl false))) (hl : ss.length ≤ 20) : BadL L ss ks "letter A" := bad_of (lit_line (by decide +kernel) (by decide +kernel)) sp_letter rfl (by kernel_rfl) (bs_letter hA (by rw [List.length_map]; exact hl))
theorem b8 (hl : ss.length ≤ 20) : BadL L ss ks "times 0  0" := bad_of (lit_line (by decide +kernel) (by decide +kernel)) sp_times rfl (by kernel_rfl) (bs_times (by rw [List.length_map]; exact hl))
theorem bE (hl : ss.length ≤ 20) : BadL L ss ks "" := bad_of (lit_line (by decide +kernel) (by decide +kernel)) sp_empty rfl (by kernel_rfl) (bs_empty (by rw [List.length_map]; exact hl))
theorem bG {w l : Str} (h : LineOk l) (hs : Txt.split l " " = (["give", w] : List Str)) (hw : okS w = true) (hx : ∀ i < 20, numS i ≠ w) (hl : ss.length ≤ 20) : BadL L ss ks l :=
  ⟨h, fun t lines s7 s8 _ => r_giveX (ws := [w]) hs (Nat.le_trans h.ln (by decide)) (index_no hw (by rw [List.length_map]; exact hl) fun i hi => hx i (by rw [List.length_map] at hi; omega))⟩
theorem b9 (hl : ss.length ≤ 20) : BadL L ss ks "give -1" := bG (lit_line (by decide +kernel) (by decide +kernel)) sp_give1 (by decide +kernel) (fun i hi => (num_not i hi).2.1) hl
theorem b1 (hl : ss.length < 20) : BadL L ss ks ("trace " ++ numS ss.length) := by
  have e : ("trace " ++ numS ss.length : Str) = lineS (.trace ss.length) := by
    show _ = Txt.join " " ["trace", numS ss.length]
    rw [two_words, show ("trace" : Str) ++ " " = "trace " by kernel_rfl]
  rw [e]
  have ok : (Sk.trace ss.length).fr L := trivial
  have hi : (Sk.trace ss.length).idx (ss.length + 1) := Nat.lt_succ_self _
  exact bad_of (line_ok ok hi (by omega)) (split_words ok hi (by omega)) rfl (by kernel_rfl) (bs_trace (numS_ok _ hl) (fun i hi => by
    rw [List.length_map] at hi
    exact numS_ne i (by omega) _ hl (by omega)) (by rw [List.length_map]; omega))
theorem b10 {i : Nat} (hl : ks.length ≤ 20) (hs : ss.length = ks.length) (hi : i < ks.length) (hk : atB ks i = false) : BadL L ss ks ("transpose " ++ numS i) := by
  have e : ("transpose " ++ numS i : Str) = lineS (.transpose i) := by
    show _ = Txt.join " " ["transpose", numS i]
    rw [two_words, show ("transpose" : Str) ++ " " = "transpose " by kernel_rfl]
  rw [e]
  have ok : (Sk.transpose i).fr L := trivial
  exact ⟨line_ok ok hi hl, fun t lines s7 s8 h8 => r_badK ok hi (by show (if atB ks i = true then some true else none) = none; rw [hk]; rfl) hl (by rw [List.length_map]; exact hs) h8 rfl⟩
theorem findD_app {y : D} : ∀ {a b : List D} {n k : Nat}, findD y n a = some k → findD y n (a ++ b) = some k
  | [], b, n, k, h => by cases h
  | x :: r, b, n, k, h => by
    have h : (if eqD x y = true then some n else findD y (n + 1) r) = some k := h
    show (if eqD x y = true then some n else findD y (n + 1) (r ++ b)) = some k
    split at h
    · rename_i hx; rw [if_pos hx]; exact h
    · rename_i hx; rw [if_neg hx]; exact findD_app h
theorem eq_mn : eqD (.str "matrix") (.str "number") = false := by kernel_rfl
theorem eq_nn : eqD (.str "number") (.str "number") = true := by kernel_rfl
theorem eq_k (k : Bool) : eqD (.str (kS k)) (.str "number") = !k := by
  cases k
  · exact eq_nn
  · exact eq_mn
theorem find_kb : ∀ (ks : List Bool) (n : Nat), ks.any (fun k => !k) = true → ∃ j, findD (.str "number") n (ks.map fun k => .str (kS k)) = some (n + j) ∧ j < ks.length ∧ atB ks j = false
  | [], n, h => by cases h
  | k :: r, n, h => by
    cases k
    · refine ⟨0, ?_, Nat.succ_pos _, rfl⟩
      show (if eqD (.str (kS false)) (.str "number") = true then some n else _) = _
      rw [eq_k]
      rfl
    · have h : r.any (fun k => !k) = true := h
      obtain ⟨j, h1, h2, h3⟩ := find_kb r (n + 1) h
      refine ⟨j + 1, ?_, Nat.succ_lt_succ h2, ?_⟩
      · show (if eqD (.str (kS true)) (.str "number") = true then some n else findD (.str "number") (n + 1) (r.map fun k => .str (kS k))) = _
        rw [eq_k, h1, show n + 1 + j = n + (j + 1) by omega]
        rfl
      · unfold atB at h3 ⊢
        rw [List.getD_cons_succ]
        exact h3
theorem flat_kb (ks : List Bool) : (ks.map fun k => D.str (kS k)).all flat = true := by
  rw [List.all_eq_true]
  intro d hd
  obtain ⟨k, _, rfl⟩ := List.mem_map.mp hd
  rfl
theorem in_kb (ks : List Bool) : inF (.str "number") (KB ks) = some (.val (.bl (ks.any fun k => !k))) := by
  show (if (flat (.str "number") && (ks.map fun k => D.str (kS k)).all flat) = true then ov (.bl ((ks.map fun k => D.str (kS k)).any fun y => eqD y (.str "number"))) else none) = _
  rw [flat_kb, if_pos (show (flat (.str "number") && true) = true from rfl), List.any_map]
  have : ((fun y => eqD y (.str "number")) ∘ fun k => D.str (kS k)) = fun k => !k := funext fun k => eq_k k
  rw [this]
  rfl
theorem index_kb {ks : List Bool} {j : Nat} (h : findD (.str "number") 0 (ks.map fun k => .str (kS k)) = some j) : indexM (ks.map fun k => .str (kS k)) [.str "number"] = some (.val (.int (j : Nat))) := by
  show (if (flat (.str "number") && (ks.map fun k => D.str (kS k)).all flat) = true then (findD (.str "number") 0 (ks.map fun k => .str (kS k))).map (fun j => Opd.val (.int (j : Nat))) else none) = _
  rw [flat_kb, if_pos (show (flat (.str "number") && true) = true from rfl), h]
  rfl
theorem cut_take {α : Type} (a b : List α) : cut (a ++ b) none (some (a.length : Nat)) = a := by
  unfold cut sIx
  have : ¬ ((a.length : Nat) : Int) < 0 := by omega
  simp [this]
theorem addS {a b : Str} (h : a.length ≤ 100) (h2 : b.length ≤ 100) : addF (.str a) (.str b) = some (.val (.str (a ++ b))) := by
  show (if a.length + b.length ≤ 1000000 then ov (.str (a ++ b)) else none) = _
  rw [if_pos (by omega)]
  rfl
theorem x_mtL {f : List D → List D → Option Opd} {a : E} {t : As} {Γ Γ1 Γ2 : Env} {x o : Opd} {xs : List D} {os : List Opd} {ds : List D} (ha : a Γ = .ok x Γ1) (hx : x.str = some (.lst xs)) (ht : t Γ1 = .ok os Γ2) (hg : gets Γ2 os = some ds) (hf : f xs ds = some o) : eMtL f a t Γ = .ok o Γ2 := by
  unfold eMtL
  rw [ha]
  show (match x.str with
    | some (.lst xs) => (t Γ1).bind fun os Γ2 => match gets Γ2 os with
      | some ds => opt (f xs ds) Γ2
      | none => .stuck
    | _ => .stuck) = _
  rw [hx]
  dsimp only
  rw [ht]
  show (match gets Γ2 os with
      | some ds => opt (f xs ds) Γ2
      | none => .stuck) = _
  rw [hg]
  dsimp only
  rw [hf]
  rfl
end
local macro_rules | `(tactic| array_get_dec) => `(tactic| first
  | ((with_reducible apply x_mtL)
     · array_get_dec
     · exact rfl
     · array_get_dec
     · exact rfl
     · clean_wf))
section
variable {L : Str} {ss : List Sk} {ks z : List Bool}
theorem bl_run {a b c d : D} (h : d__law_bad_line [.sh a, .sh b, .sh c] = .ret d) : m__law_bad_line [a, b, c] = .ok d := run_ret rfl h
theorem bad_line (hA : inTF (.str "A") (.str L) = some (.val (.bl false))) (hl : ss.length < 20) (hs : ks.length = ss.length) {w : Nat} (hw : w ≤ 10) :
    ∃ l, m__law_bad_line [.int (w : Nat), .int (ss.length : Nat), KB (ks ++ z)] = .ok (.str l) ∧ BadL L ss ks l := by
  have hw : w = 0 ∨ w = 1 ∨ w = 2 ∨ w = 3 ∨ w = 4 ∨ w = 5 ∨ w = 6 ∨ w = 7 ∨ w = 8 ∨ w = 9 ∨ w = 10 := by omega
  have hn := strF_num hl
  have hnl := numS_len ss.length hl
  rcases hw with rfl | rfl | rfl | rfl | rfl | rfl | rfl | rfl | rfl | rfl | rfl
  · exact ⟨_, bl_run (show d__law_bad_line [.sh (.int 0), .sh (.int (ss.length : Nat)), .sh (KB (ks ++ z))] = .ret (.str "invert 0") from by unfold d__law_bad_line; array_get_dec), b0 (by omega)⟩
  · have ha := addS (a := "trace ") (b := numS ss.length) (by decide +kernel) (by omega)
    exact ⟨_, bl_run (show d__law_bad_line [.sh (.int 1), .sh (.int (ss.length : Nat)), .sh (KB (ks ++ z))] = .ret (.str ("trace " ++ numS ss.length)) from by unfold d__law_bad_line; array_get_dec), b1 hl⟩
  · exact ⟨_, bl_run (show d__law_bad_line [.sh (.int 2), .sh (.int (ss.length : Nat)), .sh (KB (ks ++ z))] = .ret (.str "scale 1 00") from by unfold d__law_bad_line; array_get_dec), b2 (by omega)⟩
  · exact ⟨_, bl_run (show d__law_bad_line [.sh (.int 3), .sh (.int (ss.length : Nat)), .sh (KB (ks ++ z))] = .ret (.str "const 2/4") from by unfold d__law_bad_line; array_get_dec), b3 (by omega)⟩
  · exact ⟨_, bl_run (show d__law_bad_line [.sh (.int 4), .sh (.int (ss.length : Nat)), .sh (KB (ks ++ z))] = .ret (.str "one ") from by unfold d__law_bad_line; array_get_dec), b4 (by omega)⟩
  · exact ⟨_, bl_run (show d__law_bad_line [.sh (.int 5), .sh (.int (ss.length : Nat)), .sh (KB (ks ++ z))] = .ret (.str "sum 0") from by unfold d__law_bad_line; array_get_dec), b5 (by omega)⟩
  · exact ⟨_, bl_run (show d__law_bad_line [.sh (.int 6), .sh (.int (ss.length : Nat)), .sh (KB (ks ++ z))] = .ret (.str "power 0 7") from by unfold d__law_bad_line; array_get_dec), b6 (by omega)⟩
  · exact ⟨_, bl_run (show d__law_bad_line [.sh (.int 7), .sh (.int (ss.length : Nat)), .sh (KB (ks ++ z))] = .ret (.str "letter A") from by unfold d__law_bad_line; array_get_dec), b7 hA (by omega)⟩
  · exact ⟨_, bl_run (show d__law_bad_line [.sh (.int 8), .sh (.int (ss.length : Nat)), .sh (KB (ks ++ z))] = .ret (.str "times 0  0") from by unfold d__law_bad_line; array_get_dec), b8 (by omega)⟩
  · exact ⟨_, bl_run (show d__law_bad_line [.sh (.int 9), .sh (.int (ss.length : Nat)), .sh (KB (ks ++ z))] = .ret (.str "give -1") from by unfold d__law_bad_line; array_get_dec), b9 (by omega)⟩
  · have hS : slF (KB (ks ++ z)) none (some ((ss.length : Nat) : Int)) = some (.fresh (KB ks)) := by
      show of (.lst (cut ((ks ++ z).map fun k => D.str (kS k)) none (some ((ss.length : Nat) : Int)))) = _
      rw [List.map_append, show ss.length = (ks.map fun k => D.str (kS k)).length by rw [List.length_map, hs], cut_take]
      rfl
    have hin := in_kb ks
    cases hb : ks.any fun k => !k with
    | false =>
      rw [hb] at hin
      exact ⟨_, bl_run (show d__law_bad_line [.sh (.int 10), .sh (.int (ss.length : Nat)), .sh (KB (ks ++ z))] = .ret (.str "") from by unfold d__law_bad_line; array_get_dec), bE (by omega)⟩
    | true =>
      rw [hb] at hin
      obtain ⟨j, h1, h2, h3⟩ := find_kb ks 0 hb
      have hI := index_kb (ks := ks ++ z) (j := 0 + j) (by rw [List.map_append]; exact findD_app h1)
      rw [Nat.zero_add] at hI
      have hnj := strF_num (i := j) (by omega)
      have hlj := numS_len j (by omega)
      have ha := addS (a := "transpose ") (b := numS j) (by decide +kernel) (by omega)
      exact ⟨_, bl_run (show d__law_bad_line [.sh (.int 10), .sh (.int (ss.length : Nat)), .sh (KB (ks ++ z))] = .ret (.str ("transpose " ++ numS j)) from by unfold d__law_bad_line; array_get_dec), b10 (by omega) hs.symm h2 h3⟩
end

/-! M27n (printed by mkn.py): _law_step. -/
theorem x_chT {f g : D → D → Option Opd} {a b c : E} {Γ Γ1 Γ2 Γ3 : Env} {x y z o : Opd} {dx dy dz : D} (ha : a Γ = .ok x Γ1) (hb : b Γ1 = .ok y Γ2) (hx : x.str = some dx) (hy : y.str = some dy) (hf : f dx dy = some (.val (.bl true))) (hc : c Γ2 = .ok z Γ3) (hz : z.get Γ3 = some dz) (hg : g dy dz = some o) : eCh f g a b c Γ = .ok o Γ3 := by
  unfold eCh
  rw [ha]
  show (b Γ1).bind _ = _
  rw [hb]
  show (match x.str, y.str with
    | some dx, some dy => match f dx dy with
      | some (.val (.bl true)) => (c Γ2).bind fun z Γ3 => match z.get Γ3 with
        | some dz => opt (g dy dz) Γ3
        | none => .stuck
      | some (.val (.bl false)) => .ok (.val (.bl false)) Γ2
      | _ => .stuck
    | _, _ => .stuck) = _
  rw [hx, hy]
  dsimp only
  rw [hf]
  dsimp only
  rw [hc]
  show (match z.get Γ3 with
        | some dz => opt (g dy dz) Γ3
        | none => .stuck) = _
  rw [hz]
  dsimp only
  rw [hg]
  rfl
theorem x_chF {f g : D → D → Option Opd} {a b c : E} {Γ Γ1 Γ2 : Env} {x y : Opd} {dx dy : D} (ha : a Γ = .ok x Γ1) (hb : b Γ1 = .ok y Γ2) (hx : x.str = some dx) (hy : y.str = some dy) (hf : f dx dy = some (.val (.bl false))) : eCh f g a b c Γ = .ok (.val (.bl false)) Γ2 := by
  unfold eCh
  rw [ha]
  show (b Γ1).bind _ = _
  rw [hb]
  show (match x.str, y.str with
    | some dx, some dy => match f dx dy with
      | some (.val (.bl true)) => (c Γ2).bind fun z Γ3 => match z.get Γ3 with
        | some dz => opt (g dy dz) Γ3
        | none => .stuck
      | some (.val (.bl false)) => .ok (.val (.bl false)) Γ2
      | _ => .stuck
    | _, _ => .stuck) = _
  rw [hx, hy]
  dsimp only
  rw [hf]
local macro_rules | `(tactic| array_get_dec) => `(tactic| first
  | ((with_reducible apply x_chT)
     · array_get_dec
     · array_get_dec
     · exact rfl
     · exact rfl
     · with_reducible assumption
     · array_get_dec
     · exact rfl
     · clean_wf)
  | ((with_reducible apply x_chF)
     · array_get_dec
     · array_get_dec
     · exact rfl
     · exact rfl
     · with_reducible assumption))
section
variable {ks : List Bool} {gr : List D} {i j : Nat} {f ga gb sz : Int}
theorem lst_run {a b c d e g h k r : D} (hh : d__law_step [.sh a, .sh b, .sh c, .sh d, .sh e, .sh g, .sh h, .sh k, .no, .no] = .ret r) : m__law_step [a, b, c, d, e, g, h, k] = .ok r := run_ret rfl hh
theorem ls_0_mm (h0 : ixF (KB ks) (.int (i : Nat)) = some (.val (.str "matrix"))) (h1 : ixF (KB ks) (.int (j : Nat)) = some (.val (.str "matrix"))) (h2 : ixF (.lst gr) (.int (i : Nat)) = some (.val (.int ga))) (h3 : ixF (.lst gr) (.int (j : Nat)) = some (.val (.int gb))) (h4 : leF (.int (ga + gb)) (.int 8) = some (.val (.bl true))) : m__law_step [.int 0, .int (i : Nat), .int (j : Nat), .int f, KB ks, .lst gr, .int 8, .int sz] = .ok (.tup [.tup [.str "times", .int (i : Nat), .int (j : Nat)], .str "matrix", .int (ga + gb)]) := by
  exact lst_run (show d__law_step [.sh (.int 0), .sh (.int (i : Nat)), .sh (.int (j : Nat)), .sh (.int f), .sh (KB ks), .sh (.lst gr), .sh (.int 8), .sh (.int sz), .no, .no] = .ret (.tup [.tup [.str "times", .int (i : Nat), .int (j : Nat)], .str "matrix", .int (ga + gb)]) from by unfold d__law_step; array_get_dec)
theorem ls_0_mn (h0 : ixF (KB ks) (.int (i : Nat)) = some (.val (.str "matrix"))) (h1 : ixF (KB ks) (.int (j : Nat)) = some (.val (.str "number"))) (h2 : ixF (.lst gr) (.int (i : Nat)) = some (.val (.int ga))) (h3 : ixF (.lst gr) (.int (j : Nat)) = some (.val (.int gb))) (h4 : leF (.int (ga + gb)) (.int 8) = some (.val (.bl true))) : m__law_step [.int 0, .int (i : Nat), .int (j : Nat), .int f, KB ks, .lst gr, .int 8, .int sz] = .ok (.tup [.tup [.str "times", .int (i : Nat), .int (j : Nat)], .str "matrix", .int (ga + gb)]) := by
  exact lst_run (show d__law_step [.sh (.int 0), .sh (.int (i : Nat)), .sh (.int (j : Nat)), .sh (.int f), .sh (KB ks), .sh (.lst gr), .sh (.int 8), .sh (.int sz), .no, .no] = .ret (.tup [.tup [.str "times", .int (i : Nat), .int (j : Nat)], .str "matrix", .int (ga + gb)]) from by unfold d__law_step; array_get_dec)
theorem ls_0_xm (h0 : ixF (KB ks) (.int (i : Nat)) = some (.val (.str "matrix"))) (h1 : ixF (.lst gr) (.int (i : Nat)) = some (.val (.int ga))) (h2 : ixF (.lst gr) (.int (j : Nat)) = some (.val (.int gb))) (h3 : leF (.int (ga + gb)) (.int 8) = some (.val (.bl false))) : m__law_step [.int 0, .int (i : Nat), .int (j : Nat), .int f, KB ks, .lst gr, .int 8, .int sz] = .ok (.tup [.tup [.str "scale", .tup [.int f, .int 3], .int (i : Nat)], .str "matrix", .int ga]) := by
  exact lst_run (show d__law_step [.sh (.int 0), .sh (.int (i : Nat)), .sh (.int (j : Nat)), .sh (.int f), .sh (KB ks), .sh (.lst gr), .sh (.int 8), .sh (.int sz), .no, .no] = .ret (.tup [.tup [.str "scale", .tup [.int f, .int 3], .int (i : Nat)], .str "matrix", .int ga]) from by unfold d__law_step; array_get_dec)
theorem ls_0_nm (h0 : ixF (KB ks) (.int (i : Nat)) = some (.val (.str "number"))) (h1 : ixF (KB ks) (.int (j : Nat)) = some (.val (.str "matrix"))) (h2 : ixF (.lst gr) (.int (i : Nat)) = some (.val (.int ga))) (h3 : ixF (.lst gr) (.int (j : Nat)) = some (.val (.int gb))) (h4 : leF (.int (ga + gb)) (.int 8) = some (.val (.bl true))) : m__law_step [.int 0, .int (i : Nat), .int (j : Nat), .int f, KB ks, .lst gr, .int 8, .int sz] = .ok (.tup [.tup [.str "times", .int (i : Nat), .int (j : Nat)], .str "matrix", .int (ga + gb)]) := by
  exact lst_run (show d__law_step [.sh (.int 0), .sh (.int (i : Nat)), .sh (.int (j : Nat)), .sh (.int f), .sh (KB ks), .sh (.lst gr), .sh (.int 8), .sh (.int sz), .no, .no] = .ret (.tup [.tup [.str "times", .int (i : Nat), .int (j : Nat)], .str "matrix", .int (ga + gb)]) from by unfold d__law_step; array_get_dec)
theorem ls_0_nn (h0 : ixF (KB ks) (.int (i : Nat)) = some (.val (.str "number"))) (h1 : ixF (KB ks) (.int (j : Nat)) = some (.val (.str "number"))) (h2 : ixF (.lst gr) (.int (i : Nat)) = some (.val (.int ga))) (h3 : ixF (.lst gr) (.int (j : Nat)) = some (.val (.int gb))) (h4 : leF (.int (ga + gb)) (.int 8) = some (.val (.bl true))) : m__law_step [.int 0, .int (i : Nat), .int (j : Nat), .int f, KB ks, .lst gr, .int 8, .int sz] = .ok (.tup [.tup [.str "times", .int (i : Nat), .int (j : Nat)], .str "number", .int (ga + gb)]) := by
  exact lst_run (show d__law_step [.sh (.int 0), .sh (.int (i : Nat)), .sh (.int (j : Nat)), .sh (.int f), .sh (KB ks), .sh (.lst gr), .sh (.int 8), .sh (.int sz), .no, .no] = .ret (.tup [.tup [.str "times", .int (i : Nat), .int (j : Nat)], .str "number", .int (ga + gb)]) from by unfold d__law_step; array_get_dec)
theorem ls_0_xn (h0 : ixF (KB ks) (.int (i : Nat)) = some (.val (.str "number"))) (h1 : ixF (.lst gr) (.int (i : Nat)) = some (.val (.int ga))) (h2 : ixF (.lst gr) (.int (j : Nat)) = some (.val (.int gb))) (h3 : leF (.int (ga + gb)) (.int 8) = some (.val (.bl false))) : m__law_step [.int 0, .int (i : Nat), .int (j : Nat), .int f, KB ks, .lst gr, .int 8, .int sz] = .ok (.tup [.tup [.str "scale", .tup [.int f, .int 3], .int (i : Nat)], .str "number", .int ga]) := by
  exact lst_run (show d__law_step [.sh (.int 0), .sh (.int (i : Nat)), .sh (.int (j : Nat)), .sh (.int f), .sh (KB ks), .sh (.lst gr), .sh (.int 8), .sh (.int sz), .no, .no] = .ret (.tup [.tup [.str "scale", .tup [.int f, .int 3], .int (i : Nat)], .str "number", .int ga]) from by unfold d__law_step; array_get_dec)
theorem ls_1_mm (h0 : ixF (KB ks) (.int (i : Nat)) = some (.val (.str "matrix"))) (h1 : ixF (KB ks) (.int (j : Nat)) = some (.val (.str "matrix"))) (h2 : ixF (.lst gr) (.int (i : Nat)) = some (.val (.int ga))) (h3 : ixF (.lst gr) (.int (j : Nat)) = some (.val (.int gb))) (h4 : leF (.int (ga + gb)) (.int 8) = some (.val (.bl true))) : m__law_step [.int 1, .int (i : Nat), .int (j : Nat), .int f, KB ks, .lst gr, .int 8, .int sz] = .ok (.tup [.tup [.str "times", .int (i : Nat), .int (j : Nat)], .str "matrix", .int (ga + gb)]) := by
  exact lst_run (show d__law_step [.sh (.int 1), .sh (.int (i : Nat)), .sh (.int (j : Nat)), .sh (.int f), .sh (KB ks), .sh (.lst gr), .sh (.int 8), .sh (.int sz), .no, .no] = .ret (.tup [.tup [.str "times", .int (i : Nat), .int (j : Nat)], .str "matrix", .int (ga + gb)]) from by unfold d__law_step; array_get_dec)
theorem ls_1_mn (h0 : ixF (KB ks) (.int (i : Nat)) = some (.val (.str "matrix"))) (h1 : ixF (KB ks) (.int (j : Nat)) = some (.val (.str "number"))) (h2 : ixF (.lst gr) (.int (i : Nat)) = some (.val (.int ga))) (h3 : ixF (.lst gr) (.int (j : Nat)) = some (.val (.int gb))) (h4 : leF (.int (ga + gb)) (.int 8) = some (.val (.bl true))) : m__law_step [.int 1, .int (i : Nat), .int (j : Nat), .int f, KB ks, .lst gr, .int 8, .int sz] = .ok (.tup [.tup [.str "times", .int (i : Nat), .int (j : Nat)], .str "matrix", .int (ga + gb)]) := by
  exact lst_run (show d__law_step [.sh (.int 1), .sh (.int (i : Nat)), .sh (.int (j : Nat)), .sh (.int f), .sh (KB ks), .sh (.lst gr), .sh (.int 8), .sh (.int sz), .no, .no] = .ret (.tup [.tup [.str "times", .int (i : Nat), .int (j : Nat)], .str "matrix", .int (ga + gb)]) from by unfold d__law_step; array_get_dec)
theorem ls_1_xm (h0 : ixF (KB ks) (.int (i : Nat)) = some (.val (.str "matrix"))) (h1 : ixF (.lst gr) (.int (i : Nat)) = some (.val (.int ga))) (h2 : ixF (.lst gr) (.int (j : Nat)) = some (.val (.int gb))) (h3 : leF (.int (ga + gb)) (.int 8) = some (.val (.bl false))) : m__law_step [.int 1, .int (i : Nat), .int (j : Nat), .int f, KB ks, .lst gr, .int 8, .int sz] = .ok (.tup [.tup [.str "scale", .tup [.int f, .int 3], .int (i : Nat)], .str "matrix", .int ga]) := by
  exact lst_run (show d__law_step [.sh (.int 1), .sh (.int (i : Nat)), .sh (.int (j : Nat)), .sh (.int f), .sh (KB ks), .sh (.lst gr), .sh (.int 8), .sh (.int sz), .no, .no] = .ret (.tup [.tup [.str "scale", .tup [.int f, .int 3], .int (i : Nat)], .str "matrix", .int ga]) from by unfold d__law_step; array_get_dec)
theorem ls_1_nm (h0 : ixF (KB ks) (.int (i : Nat)) = some (.val (.str "number"))) (h1 : ixF (KB ks) (.int (j : Nat)) = some (.val (.str "matrix"))) (h2 : ixF (.lst gr) (.int (i : Nat)) = some (.val (.int ga))) (h3 : ixF (.lst gr) (.int (j : Nat)) = some (.val (.int gb))) (h4 : leF (.int (ga + gb)) (.int 8) = some (.val (.bl true))) : m__law_step [.int 1, .int (i : Nat), .int (j : Nat), .int f, KB ks, .lst gr, .int 8, .int sz] = .ok (.tup [.tup [.str "times", .int (i : Nat), .int (j : Nat)], .str "matrix", .int (ga + gb)]) := by
  exact lst_run (show d__law_step [.sh (.int 1), .sh (.int (i : Nat)), .sh (.int (j : Nat)), .sh (.int f), .sh (KB ks), .sh (.lst gr), .sh (.int 8), .sh (.int sz), .no, .no] = .ret (.tup [.tup [.str "times", .int (i : Nat), .int (j : Nat)], .str "matrix", .int (ga + gb)]) from by unfold d__law_step; array_get_dec)
theorem ls_1_nn (h0 : ixF (KB ks) (.int (i : Nat)) = some (.val (.str "number"))) (h1 : ixF (KB ks) (.int (j : Nat)) = some (.val (.str "number"))) (h2 : ixF (.lst gr) (.int (i : Nat)) = some (.val (.int ga))) (h3 : ixF (.lst gr) (.int (j : Nat)) = some (.val (.int gb))) (h4 : leF (.int (ga + gb)) (.int 8) = some (.val (.bl true))) : m__law_step [.int 1, .int (i : Nat), .int (j : Nat), .int f, KB ks, .lst gr, .int 8, .int sz] = .ok (.tup [.tup [.str "times", .int (i : Nat), .int (j : Nat)], .str "number", .int (ga + gb)]) := by
  exact lst_run (show d__law_step [.sh (.int 1), .sh (.int (i : Nat)), .sh (.int (j : Nat)), .sh (.int f), .sh (KB ks), .sh (.lst gr), .sh (.int 8), .sh (.int sz), .no, .no] = .ret (.tup [.tup [.str "times", .int (i : Nat), .int (j : Nat)], .str "number", .int (ga + gb)]) from by unfold d__law_step; array_get_dec)
theorem ls_1_xn (h0 : ixF (KB ks) (.int (i : Nat)) = some (.val (.str "number"))) (h1 : ixF (.lst gr) (.int (i : Nat)) = some (.val (.int ga))) (h2 : ixF (.lst gr) (.int (j : Nat)) = some (.val (.int gb))) (h3 : leF (.int (ga + gb)) (.int 8) = some (.val (.bl false))) : m__law_step [.int 1, .int (i : Nat), .int (j : Nat), .int f, KB ks, .lst gr, .int 8, .int sz] = .ok (.tup [.tup [.str "scale", .tup [.int f, .int 3], .int (i : Nat)], .str "number", .int ga]) := by
  exact lst_run (show d__law_step [.sh (.int 1), .sh (.int (i : Nat)), .sh (.int (j : Nat)), .sh (.int f), .sh (KB ks), .sh (.lst gr), .sh (.int 8), .sh (.int sz), .no, .no] = .ret (.tup [.tup [.str "scale", .tup [.int f, .int 3], .int (i : Nat)], .str "number", .int ga]) from by unfold d__law_step; array_get_dec)
theorem ls_2_mm (h0 : ixF (KB ks) (.int (i : Nat)) = some (.val (.str "matrix"))) (h1 : ixF (KB ks) (.int (j : Nat)) = some (.val (.str "matrix"))) (h2 : ixF (.lst gr) (.int (i : Nat)) = some (.val (.int ga))) (h3 : ixF (.lst gr) (.int (j : Nat)) = some (.val (.int gb))) (h4 : leF (.int (ga + gb)) (.int 8) = some (.val (.bl true))) : m__law_step [.int 2, .int (i : Nat), .int (j : Nat), .int f, KB ks, .lst gr, .int 8, .int sz] = .ok (.tup [.tup [.str "times", .int (i : Nat), .int (j : Nat)], .str "matrix", .int (ga + gb)]) := by
  exact lst_run (show d__law_step [.sh (.int 2), .sh (.int (i : Nat)), .sh (.int (j : Nat)), .sh (.int f), .sh (KB ks), .sh (.lst gr), .sh (.int 8), .sh (.int sz), .no, .no] = .ret (.tup [.tup [.str "times", .int (i : Nat), .int (j : Nat)], .str "matrix", .int (ga + gb)]) from by unfold d__law_step; array_get_dec)
theorem ls_2_mn (h0 : ixF (KB ks) (.int (i : Nat)) = some (.val (.str "matrix"))) (h1 : ixF (KB ks) (.int (j : Nat)) = some (.val (.str "number"))) (h2 : ixF (.lst gr) (.int (i : Nat)) = some (.val (.int ga))) (h3 : ixF (.lst gr) (.int (j : Nat)) = some (.val (.int gb))) (h4 : leF (.int (ga + gb)) (.int 8) = some (.val (.bl true))) : m__law_step [.int 2, .int (i : Nat), .int (j : Nat), .int f, KB ks, .lst gr, .int 8, .int sz] = .ok (.tup [.tup [.str "times", .int (i : Nat), .int (j : Nat)], .str "matrix", .int (ga + gb)]) := by
  exact lst_run (show d__law_step [.sh (.int 2), .sh (.int (i : Nat)), .sh (.int (j : Nat)), .sh (.int f), .sh (KB ks), .sh (.lst gr), .sh (.int 8), .sh (.int sz), .no, .no] = .ret (.tup [.tup [.str "times", .int (i : Nat), .int (j : Nat)], .str "matrix", .int (ga + gb)]) from by unfold d__law_step; array_get_dec)
theorem ls_2_pm (h0 : ixF (KB ks) (.int (i : Nat)) = some (.val (.str "matrix"))) (h1 : ixF (.lst gr) (.int (i : Nat)) = some (.val (.int ga))) (h2 : ixF (.lst gr) (.int (j : Nat)) = some (.val (.int gb))) (h3 : leF (.int (ga + gb)) (.int 8) = some (.val (.bl false))) (h4 : mulF (.int 2) (.int ga) = some (.val (.int (2 * ga)))) (h5 : leF (.int (2 * ga)) (.int 8) = some (.val (.bl true))) : m__law_step [.int 2, .int (i : Nat), .int (j : Nat), .int f, KB ks, .lst gr, .int 8, .int sz] = .ok (.tup [.tup [.str "power", .int (i : Nat), .int 2], .str "matrix", .int (2 * ga)]) := by
  exact lst_run (show d__law_step [.sh (.int 2), .sh (.int (i : Nat)), .sh (.int (j : Nat)), .sh (.int f), .sh (KB ks), .sh (.lst gr), .sh (.int 8), .sh (.int sz), .no, .no] = .ret (.tup [.tup [.str "power", .int (i : Nat), .int 2], .str "matrix", .int (2 * ga)]) from by unfold d__law_step; array_get_dec)
theorem ls_2_xm (h0 : ixF (KB ks) (.int (i : Nat)) = some (.val (.str "matrix"))) (h1 : ixF (.lst gr) (.int (i : Nat)) = some (.val (.int ga))) (h2 : ixF (.lst gr) (.int (j : Nat)) = some (.val (.int gb))) (h3 : leF (.int (ga + gb)) (.int 8) = some (.val (.bl false))) (h4 : mulF (.int 2) (.int ga) = some (.val (.int (2 * ga)))) (h5 : leF (.int (2 * ga)) (.int 8) = some (.val (.bl false))) : m__law_step [.int 2, .int (i : Nat), .int (j : Nat), .int f, KB ks, .lst gr, .int 8, .int sz] = .ok (.tup [.tup [.str "scale", .tup [.int f, .int 3], .int (i : Nat)], .str "matrix", .int ga]) := by
  exact lst_run (show d__law_step [.sh (.int 2), .sh (.int (i : Nat)), .sh (.int (j : Nat)), .sh (.int f), .sh (KB ks), .sh (.lst gr), .sh (.int 8), .sh (.int sz), .no, .no] = .ret (.tup [.tup [.str "scale", .tup [.int f, .int 3], .int (i : Nat)], .str "matrix", .int ga]) from by unfold d__law_step; array_get_dec)
theorem ls_2_nm (h0 : ixF (KB ks) (.int (i : Nat)) = some (.val (.str "number"))) (h1 : ixF (KB ks) (.int (j : Nat)) = some (.val (.str "matrix"))) (h2 : ixF (.lst gr) (.int (i : Nat)) = some (.val (.int ga))) (h3 : ixF (.lst gr) (.int (j : Nat)) = some (.val (.int gb))) (h4 : leF (.int (ga + gb)) (.int 8) = some (.val (.bl true))) : m__law_step [.int 2, .int (i : Nat), .int (j : Nat), .int f, KB ks, .lst gr, .int 8, .int sz] = .ok (.tup [.tup [.str "times", .int (i : Nat), .int (j : Nat)], .str "matrix", .int (ga + gb)]) := by
  exact lst_run (show d__law_step [.sh (.int 2), .sh (.int (i : Nat)), .sh (.int (j : Nat)), .sh (.int f), .sh (KB ks), .sh (.lst gr), .sh (.int 8), .sh (.int sz), .no, .no] = .ret (.tup [.tup [.str "times", .int (i : Nat), .int (j : Nat)], .str "matrix", .int (ga + gb)]) from by unfold d__law_step; array_get_dec)
theorem ls_2_nn (h0 : ixF (KB ks) (.int (i : Nat)) = some (.val (.str "number"))) (h1 : ixF (KB ks) (.int (j : Nat)) = some (.val (.str "number"))) (h2 : ixF (.lst gr) (.int (i : Nat)) = some (.val (.int ga))) (h3 : ixF (.lst gr) (.int (j : Nat)) = some (.val (.int gb))) (h4 : leF (.int (ga + gb)) (.int 8) = some (.val (.bl true))) : m__law_step [.int 2, .int (i : Nat), .int (j : Nat), .int f, KB ks, .lst gr, .int 8, .int sz] = .ok (.tup [.tup [.str "times", .int (i : Nat), .int (j : Nat)], .str "number", .int (ga + gb)]) := by
  exact lst_run (show d__law_step [.sh (.int 2), .sh (.int (i : Nat)), .sh (.int (j : Nat)), .sh (.int f), .sh (KB ks), .sh (.lst gr), .sh (.int 8), .sh (.int sz), .no, .no] = .ret (.tup [.tup [.str "times", .int (i : Nat), .int (j : Nat)], .str "number", .int (ga + gb)]) from by unfold d__law_step; array_get_dec)
theorem ls_2_pn (h0 : ixF (KB ks) (.int (i : Nat)) = some (.val (.str "number"))) (h1 : ixF (.lst gr) (.int (i : Nat)) = some (.val (.int ga))) (h2 : ixF (.lst gr) (.int (j : Nat)) = some (.val (.int gb))) (h3 : leF (.int (ga + gb)) (.int 8) = some (.val (.bl false))) (h4 : mulF (.int 2) (.int ga) = some (.val (.int (2 * ga)))) (h5 : leF (.int (2 * ga)) (.int 8) = some (.val (.bl true))) : m__law_step [.int 2, .int (i : Nat), .int (j : Nat), .int f, KB ks, .lst gr, .int 8, .int sz] = .ok (.tup [.tup [.str "power", .int (i : Nat), .int 2], .str "number", .int (2 * ga)]) := by
  exact lst_run (show d__law_step [.sh (.int 2), .sh (.int (i : Nat)), .sh (.int (j : Nat)), .sh (.int f), .sh (KB ks), .sh (.lst gr), .sh (.int 8), .sh (.int sz), .no, .no] = .ret (.tup [.tup [.str "power", .int (i : Nat), .int 2], .str "number", .int (2 * ga)]) from by unfold d__law_step; array_get_dec)
theorem ls_2_xn (h0 : ixF (KB ks) (.int (i : Nat)) = some (.val (.str "number"))) (h1 : ixF (.lst gr) (.int (i : Nat)) = some (.val (.int ga))) (h2 : ixF (.lst gr) (.int (j : Nat)) = some (.val (.int gb))) (h3 : leF (.int (ga + gb)) (.int 8) = some (.val (.bl false))) (h4 : mulF (.int 2) (.int ga) = some (.val (.int (2 * ga)))) (h5 : leF (.int (2 * ga)) (.int 8) = some (.val (.bl false))) : m__law_step [.int 2, .int (i : Nat), .int (j : Nat), .int f, KB ks, .lst gr, .int 8, .int sz] = .ok (.tup [.tup [.str "scale", .tup [.int f, .int 3], .int (i : Nat)], .str "number", .int ga]) := by
  exact lst_run (show d__law_step [.sh (.int 2), .sh (.int (i : Nat)), .sh (.int (j : Nat)), .sh (.int f), .sh (KB ks), .sh (.lst gr), .sh (.int 8), .sh (.int sz), .no, .no] = .ret (.tup [.tup [.str "scale", .tup [.int f, .int 3], .int (i : Nat)], .str "number", .int ga]) from by unfold d__law_step; array_get_dec)
theorem ls_3_m (h0 : ixF (KB ks) (.int (i : Nat)) = some (.val (.str "matrix"))) (h1 : ixF (KB ks) (.int (j : Nat)) = some (.val (.str "matrix"))) (h2 : ixF (.lst gr) (.int (i : Nat)) = some (.val (.int ga))) (h3 : ixF (.lst gr) (.int (j : Nat)) = some (.val (.int gb))) : m__law_step [.int 3, .int (i : Nat), .int (j : Nat), .int f, KB ks, .lst gr, .int 8, .int sz] = .ok (.tup [.tup [.str "sum", .int (i : Nat), .int (j : Nat)], .str "matrix", .int (if gb > ga then gb else ga)]) := by
  have hw : ixF (.lst [.str "sum", .str "diff", .str "sum"]) (.int (3 - 3)) = some (.val (.str "sum")) := by kernel_rfl
  have hm : max2F [.int ga, .int gb] = some (.val (.int (if gb > ga then gb else ga))) := rfl
  exact lst_run (show d__law_step [.sh (.int 3), .sh (.int (i : Nat)), .sh (.int (j : Nat)), .sh (.int f), .sh (KB ks), .sh (.lst gr), .sh (.int 8), .sh (.int sz), .no, .no] = .ret (.tup [.tup [.str "sum", .int (i : Nat), .int (j : Nat)], .str "matrix", .int (if gb > ga then gb else ga)]) from by unfold d__law_step; array_get_dec)
theorem ls_3_xm (h0 : ixF (KB ks) (.int (i : Nat)) = some (.val (.str "matrix"))) (h1 : ixF (KB ks) (.int (j : Nat)) = some (.val (.str "number"))) (h2 : ixF (.lst gr) (.int (i : Nat)) = some (.val (.int ga))) (h3 : ixF (.lst gr) (.int (j : Nat)) = some (.val (.int gb))) : m__law_step [.int 3, .int (i : Nat), .int (j : Nat), .int f, KB ks, .lst gr, .int 8, .int sz] = .ok (.tup [.tup [.str "scale", .tup [.int f, .int 3], .int (i : Nat)], .str "matrix", .int ga]) := by
  exact lst_run (show d__law_step [.sh (.int 3), .sh (.int (i : Nat)), .sh (.int (j : Nat)), .sh (.int f), .sh (KB ks), .sh (.lst gr), .sh (.int 8), .sh (.int sz), .no, .no] = .ret (.tup [.tup [.str "scale", .tup [.int f, .int 3], .int (i : Nat)], .str "matrix", .int ga]) from by unfold d__law_step; array_get_dec)
theorem ls_3_xn (h0 : ixF (KB ks) (.int (i : Nat)) = some (.val (.str "number"))) (h1 : ixF (KB ks) (.int (j : Nat)) = some (.val (.str "matrix"))) (h2 : ixF (.lst gr) (.int (i : Nat)) = some (.val (.int ga))) (h3 : ixF (.lst gr) (.int (j : Nat)) = some (.val (.int gb))) : m__law_step [.int 3, .int (i : Nat), .int (j : Nat), .int f, KB ks, .lst gr, .int 8, .int sz] = .ok (.tup [.tup [.str "scale", .tup [.int f, .int 3], .int (i : Nat)], .str "number", .int ga]) := by
  exact lst_run (show d__law_step [.sh (.int 3), .sh (.int (i : Nat)), .sh (.int (j : Nat)), .sh (.int f), .sh (KB ks), .sh (.lst gr), .sh (.int 8), .sh (.int sz), .no, .no] = .ret (.tup [.tup [.str "scale", .tup [.int f, .int 3], .int (i : Nat)], .str "number", .int ga]) from by unfold d__law_step; array_get_dec)
theorem ls_3_n (h0 : ixF (KB ks) (.int (i : Nat)) = some (.val (.str "number"))) (h1 : ixF (KB ks) (.int (j : Nat)) = some (.val (.str "number"))) (h2 : ixF (.lst gr) (.int (i : Nat)) = some (.val (.int ga))) (h3 : ixF (.lst gr) (.int (j : Nat)) = some (.val (.int gb))) : m__law_step [.int 3, .int (i : Nat), .int (j : Nat), .int f, KB ks, .lst gr, .int 8, .int sz] = .ok (.tup [.tup [.str "sum", .int (i : Nat), .int (j : Nat)], .str "number", .int (if gb > ga then gb else ga)]) := by
  have hw : ixF (.lst [.str "sum", .str "diff", .str "sum"]) (.int (3 - 3)) = some (.val (.str "sum")) := by kernel_rfl
  have hm : max2F [.int ga, .int gb] = some (.val (.int (if gb > ga then gb else ga))) := rfl
  exact lst_run (show d__law_step [.sh (.int 3), .sh (.int (i : Nat)), .sh (.int (j : Nat)), .sh (.int f), .sh (KB ks), .sh (.lst gr), .sh (.int 8), .sh (.int sz), .no, .no] = .ret (.tup [.tup [.str "sum", .int (i : Nat), .int (j : Nat)], .str "number", .int (if gb > ga then gb else ga)]) from by unfold d__law_step; array_get_dec)
theorem ls_4_m (h0 : ixF (KB ks) (.int (i : Nat)) = some (.val (.str "matrix"))) (h1 : ixF (KB ks) (.int (j : Nat)) = some (.val (.str "matrix"))) (h2 : ixF (.lst gr) (.int (i : Nat)) = some (.val (.int ga))) (h3 : ixF (.lst gr) (.int (j : Nat)) = some (.val (.int gb))) : m__law_step [.int 4, .int (i : Nat), .int (j : Nat), .int f, KB ks, .lst gr, .int 8, .int sz] = .ok (.tup [.tup [.str "diff", .int (i : Nat), .int (j : Nat)], .str "matrix", .int (if gb > ga then gb else ga)]) := by
  have hw : ixF (.lst [.str "sum", .str "diff", .str "sum"]) (.int (4 - 3)) = some (.val (.str "diff")) := by kernel_rfl
  have hm : max2F [.int ga, .int gb] = some (.val (.int (if gb > ga then gb else ga))) := rfl
  exact lst_run (show d__law_step [.sh (.int 4), .sh (.int (i : Nat)), .sh (.int (j : Nat)), .sh (.int f), .sh (KB ks), .sh (.lst gr), .sh (.int 8), .sh (.int sz), .no, .no] = .ret (.tup [.tup [.str "diff", .int (i : Nat), .int (j : Nat)], .str "matrix", .int (if gb > ga then gb else ga)]) from by unfold d__law_step; array_get_dec)
theorem ls_4_xm (h0 : ixF (KB ks) (.int (i : Nat)) = some (.val (.str "matrix"))) (h1 : ixF (KB ks) (.int (j : Nat)) = some (.val (.str "number"))) (h2 : ixF (.lst gr) (.int (i : Nat)) = some (.val (.int ga))) (h3 : ixF (.lst gr) (.int (j : Nat)) = some (.val (.int gb))) : m__law_step [.int 4, .int (i : Nat), .int (j : Nat), .int f, KB ks, .lst gr, .int 8, .int sz] = .ok (.tup [.tup [.str "scale", .tup [.int f, .int 3], .int (i : Nat)], .str "matrix", .int ga]) := by
  exact lst_run (show d__law_step [.sh (.int 4), .sh (.int (i : Nat)), .sh (.int (j : Nat)), .sh (.int f), .sh (KB ks), .sh (.lst gr), .sh (.int 8), .sh (.int sz), .no, .no] = .ret (.tup [.tup [.str "scale", .tup [.int f, .int 3], .int (i : Nat)], .str "matrix", .int ga]) from by unfold d__law_step; array_get_dec)
theorem ls_4_xn (h0 : ixF (KB ks) (.int (i : Nat)) = some (.val (.str "number"))) (h1 : ixF (KB ks) (.int (j : Nat)) = some (.val (.str "matrix"))) (h2 : ixF (.lst gr) (.int (i : Nat)) = some (.val (.int ga))) (h3 : ixF (.lst gr) (.int (j : Nat)) = some (.val (.int gb))) : m__law_step [.int 4, .int (i : Nat), .int (j : Nat), .int f, KB ks, .lst gr, .int 8, .int sz] = .ok (.tup [.tup [.str "scale", .tup [.int f, .int 3], .int (i : Nat)], .str "number", .int ga]) := by
  exact lst_run (show d__law_step [.sh (.int 4), .sh (.int (i : Nat)), .sh (.int (j : Nat)), .sh (.int f), .sh (KB ks), .sh (.lst gr), .sh (.int 8), .sh (.int sz), .no, .no] = .ret (.tup [.tup [.str "scale", .tup [.int f, .int 3], .int (i : Nat)], .str "number", .int ga]) from by unfold d__law_step; array_get_dec)
theorem ls_4_n (h0 : ixF (KB ks) (.int (i : Nat)) = some (.val (.str "number"))) (h1 : ixF (KB ks) (.int (j : Nat)) = some (.val (.str "number"))) (h2 : ixF (.lst gr) (.int (i : Nat)) = some (.val (.int ga))) (h3 : ixF (.lst gr) (.int (j : Nat)) = some (.val (.int gb))) : m__law_step [.int 4, .int (i : Nat), .int (j : Nat), .int f, KB ks, .lst gr, .int 8, .int sz] = .ok (.tup [.tup [.str "diff", .int (i : Nat), .int (j : Nat)], .str "number", .int (if gb > ga then gb else ga)]) := by
  have hw : ixF (.lst [.str "sum", .str "diff", .str "sum"]) (.int (4 - 3)) = some (.val (.str "diff")) := by kernel_rfl
  have hm : max2F [.int ga, .int gb] = some (.val (.int (if gb > ga then gb else ga))) := rfl
  exact lst_run (show d__law_step [.sh (.int 4), .sh (.int (i : Nat)), .sh (.int (j : Nat)), .sh (.int f), .sh (KB ks), .sh (.lst gr), .sh (.int 8), .sh (.int sz), .no, .no] = .ret (.tup [.tup [.str "diff", .int (i : Nat), .int (j : Nat)], .str "number", .int (if gb > ga then gb else ga)]) from by unfold d__law_step; array_get_dec)
theorem ls_5_m (h0 : ixF (KB ks) (.int (i : Nat)) = some (.val (.str "matrix"))) (h1 : ixF (KB ks) (.int (j : Nat)) = some (.val (.str "matrix"))) (h2 : ixF (.lst gr) (.int (i : Nat)) = some (.val (.int ga))) (h3 : ixF (.lst gr) (.int (j : Nat)) = some (.val (.int gb))) : m__law_step [.int 5, .int (i : Nat), .int (j : Nat), .int f, KB ks, .lst gr, .int 8, .int sz] = .ok (.tup [.tup [.str "sum", .int (i : Nat), .int (j : Nat)], .str "matrix", .int (if gb > ga then gb else ga)]) := by
  have hw : ixF (.lst [.str "sum", .str "diff", .str "sum"]) (.int (5 - 3)) = some (.val (.str "sum")) := by kernel_rfl
  have hm : max2F [.int ga, .int gb] = some (.val (.int (if gb > ga then gb else ga))) := rfl
  exact lst_run (show d__law_step [.sh (.int 5), .sh (.int (i : Nat)), .sh (.int (j : Nat)), .sh (.int f), .sh (KB ks), .sh (.lst gr), .sh (.int 8), .sh (.int sz), .no, .no] = .ret (.tup [.tup [.str "sum", .int (i : Nat), .int (j : Nat)], .str "matrix", .int (if gb > ga then gb else ga)]) from by unfold d__law_step; array_get_dec)
theorem ls_5_xm (h0 : ixF (KB ks) (.int (i : Nat)) = some (.val (.str "matrix"))) (h1 : ixF (KB ks) (.int (j : Nat)) = some (.val (.str "number"))) (h2 : ixF (.lst gr) (.int (i : Nat)) = some (.val (.int ga))) (h3 : ixF (.lst gr) (.int (j : Nat)) = some (.val (.int gb))) : m__law_step [.int 5, .int (i : Nat), .int (j : Nat), .int f, KB ks, .lst gr, .int 8, .int sz] = .ok (.tup [.tup [.str "scale", .tup [.int f, .int 3], .int (i : Nat)], .str "matrix", .int ga]) := by
  exact lst_run (show d__law_step [.sh (.int 5), .sh (.int (i : Nat)), .sh (.int (j : Nat)), .sh (.int f), .sh (KB ks), .sh (.lst gr), .sh (.int 8), .sh (.int sz), .no, .no] = .ret (.tup [.tup [.str "scale", .tup [.int f, .int 3], .int (i : Nat)], .str "matrix", .int ga]) from by unfold d__law_step; array_get_dec)
theorem ls_5_xn (h0 : ixF (KB ks) (.int (i : Nat)) = some (.val (.str "number"))) (h1 : ixF (KB ks) (.int (j : Nat)) = some (.val (.str "matrix"))) (h2 : ixF (.lst gr) (.int (i : Nat)) = some (.val (.int ga))) (h3 : ixF (.lst gr) (.int (j : Nat)) = some (.val (.int gb))) : m__law_step [.int 5, .int (i : Nat), .int (j : Nat), .int f, KB ks, .lst gr, .int 8, .int sz] = .ok (.tup [.tup [.str "scale", .tup [.int f, .int 3], .int (i : Nat)], .str "number", .int ga]) := by
  exact lst_run (show d__law_step [.sh (.int 5), .sh (.int (i : Nat)), .sh (.int (j : Nat)), .sh (.int f), .sh (KB ks), .sh (.lst gr), .sh (.int 8), .sh (.int sz), .no, .no] = .ret (.tup [.tup [.str "scale", .tup [.int f, .int 3], .int (i : Nat)], .str "number", .int ga]) from by unfold d__law_step; array_get_dec)
theorem ls_5_n (h0 : ixF (KB ks) (.int (i : Nat)) = some (.val (.str "number"))) (h1 : ixF (KB ks) (.int (j : Nat)) = some (.val (.str "number"))) (h2 : ixF (.lst gr) (.int (i : Nat)) = some (.val (.int ga))) (h3 : ixF (.lst gr) (.int (j : Nat)) = some (.val (.int gb))) : m__law_step [.int 5, .int (i : Nat), .int (j : Nat), .int f, KB ks, .lst gr, .int 8, .int sz] = .ok (.tup [.tup [.str "sum", .int (i : Nat), .int (j : Nat)], .str "number", .int (if gb > ga then gb else ga)]) := by
  have hw : ixF (.lst [.str "sum", .str "diff", .str "sum"]) (.int (5 - 3)) = some (.val (.str "sum")) := by kernel_rfl
  have hm : max2F [.int ga, .int gb] = some (.val (.int (if gb > ga then gb else ga))) := rfl
  exact lst_run (show d__law_step [.sh (.int 5), .sh (.int (i : Nat)), .sh (.int (j : Nat)), .sh (.int f), .sh (KB ks), .sh (.lst gr), .sh (.int 8), .sh (.int sz), .no, .no] = .ret (.tup [.tup [.str "sum", .int (i : Nat), .int (j : Nat)], .str "number", .int (if gb > ga then gb else ga)]) from by unfold d__law_step; array_get_dec)
theorem ls_6_m (h0 : ixF (KB ks) (.int (i : Nat)) = some (.val (.str "matrix"))) (h1 : ixF (.lst gr) (.int (i : Nat)) = some (.val (.int ga))) : m__law_step [.int 6, .int (i : Nat), .int (j : Nat), .int f, KB ks, .lst gr, .int 8, .int sz] = .ok (.tup [.tup [.str "trace", .int (i : Nat)], .str "number", .int ga]) := by
  exact lst_run (show d__law_step [.sh (.int 6), .sh (.int (i : Nat)), .sh (.int (j : Nat)), .sh (.int f), .sh (KB ks), .sh (.lst gr), .sh (.int 8), .sh (.int sz), .no, .no] = .ret (.tup [.tup [.str "trace", .int (i : Nat)], .str "number", .int ga]) from by unfold d__law_step; array_get_dec)
theorem ls_6_n (h0 : ixF (KB ks) (.int (i : Nat)) = some (.val (.str "number"))) (h1 : ixF (.lst gr) (.int (i : Nat)) = some (.val (.int ga))) : m__law_step [.int 6, .int (i : Nat), .int (j : Nat), .int f, KB ks, .lst gr, .int 8, .int sz] = .ok (.tup [.tup [.str "scale", .tup [.int f, .int 3], .int (i : Nat)], .str "number", .int ga]) := by
  exact lst_run (show d__law_step [.sh (.int 6), .sh (.int (i : Nat)), .sh (.int (j : Nat)), .sh (.int f), .sh (KB ks), .sh (.lst gr), .sh (.int 8), .sh (.int sz), .no, .no] = .ret (.tup [.tup [.str "scale", .tup [.int f, .int 3], .int (i : Nat)], .str "number", .int ga]) from by unfold d__law_step; array_get_dec)
theorem ls_7_m (h0 : ixF (KB ks) (.int (i : Nat)) = some (.val (.str "matrix"))) (h1 : ixF (.lst gr) (.int (i : Nat)) = some (.val (.int ga))) : m__law_step [.int 7, .int (i : Nat), .int (j : Nat), .int f, KB ks, .lst gr, .int 8, .int sz] = .ok (.tup [.tup [.str "transpose", .int (i : Nat)], .str "matrix", .int ga]) := by
  exact lst_run (show d__law_step [.sh (.int 7), .sh (.int (i : Nat)), .sh (.int (j : Nat)), .sh (.int f), .sh (KB ks), .sh (.lst gr), .sh (.int 8), .sh (.int sz), .no, .no] = .ret (.tup [.tup [.str "transpose", .int (i : Nat)], .str "matrix", .int ga]) from by unfold d__law_step; array_get_dec)
theorem ls_7_n (h0 : ixF (KB ks) (.int (i : Nat)) = some (.val (.str "number"))) (h1 : ixF (.lst gr) (.int (i : Nat)) = some (.val (.int ga))) : m__law_step [.int 7, .int (i : Nat), .int (j : Nat), .int f, KB ks, .lst gr, .int 8, .int sz] = .ok (.tup [.tup [.str "scale", .tup [.int f, .int 3], .int (i : Nat)], .str "number", .int ga]) := by
  exact lst_run (show d__law_step [.sh (.int 7), .sh (.int (i : Nat)), .sh (.int (j : Nat)), .sh (.int f), .sh (KB ks), .sh (.lst gr), .sh (.int 8), .sh (.int sz), .no, .no] = .ret (.tup [.tup [.str "scale", .tup [.int f, .int 3], .int (i : Nat)], .str "number", .int ga]) from by unfold d__law_step; array_get_dec)
theorem ls_8_m (h0 : ixF (KB ks) (.int (i : Nat)) = some (.val (.str "matrix"))) (h1 : ixF (.lst gr) (.int (i : Nat)) = some (.val (.int ga))) (h2 : mulF (.int sz) (.int ga) = some (.val (.int (sz * ga)))) (h3 : ltF (.int 0) (.int (sz * ga)) = some (.val (.bl true))) (h4 : leF (.int (sz * ga)) (.int 8) = some (.val (.bl true))) : m__law_step [.int 8, .int (i : Nat), .int (j : Nat), .int f, KB ks, .lst gr, .int 8, .int sz] = .ok (.tup [.tup [.str "det", .int (i : Nat)], .str "number", .int (sz * ga)]) := by
  exact lst_run (show d__law_step [.sh (.int 8), .sh (.int (i : Nat)), .sh (.int (j : Nat)), .sh (.int f), .sh (KB ks), .sh (.lst gr), .sh (.int 8), .sh (.int sz), .no, .no] = .ret (.tup [.tup [.str "det", .int (i : Nat)], .str "number", .int (sz * ga)]) from by unfold d__law_step; array_get_dec)
theorem ls_8_a (h0 : ixF (KB ks) (.int (i : Nat)) = some (.val (.str "matrix"))) (h1 : ixF (.lst gr) (.int (i : Nat)) = some (.val (.int ga))) (h2 : mulF (.int sz) (.int ga) = some (.val (.int (sz * ga)))) (h3 : ltF (.int 0) (.int (sz * ga)) = some (.val (.bl true))) (h4 : leF (.int (sz * ga)) (.int 8) = some (.val (.bl false))) : m__law_step [.int 8, .int (i : Nat), .int (j : Nat), .int f, KB ks, .lst gr, .int 8, .int sz] = .ok (.tup [.tup [.str "scale", .tup [.int f, .int 3], .int (i : Nat)], .str "matrix", .int ga]) := by
  exact lst_run (show d__law_step [.sh (.int 8), .sh (.int (i : Nat)), .sh (.int (j : Nat)), .sh (.int f), .sh (KB ks), .sh (.lst gr), .sh (.int 8), .sh (.int sz), .no, .no] = .ret (.tup [.tup [.str "scale", .tup [.int f, .int 3], .int (i : Nat)], .str "matrix", .int ga]) from by unfold d__law_step; array_get_dec)
theorem ls_8_b (h0 : ixF (KB ks) (.int (i : Nat)) = some (.val (.str "matrix"))) (h1 : ixF (.lst gr) (.int (i : Nat)) = some (.val (.int ga))) (h2 : mulF (.int sz) (.int ga) = some (.val (.int (sz * ga)))) (h3 : ltF (.int 0) (.int (sz * ga)) = some (.val (.bl false))) : m__law_step [.int 8, .int (i : Nat), .int (j : Nat), .int f, KB ks, .lst gr, .int 8, .int sz] = .ok (.tup [.tup [.str "scale", .tup [.int f, .int 3], .int (i : Nat)], .str "matrix", .int ga]) := by
  exact lst_run (show d__law_step [.sh (.int 8), .sh (.int (i : Nat)), .sh (.int (j : Nat)), .sh (.int f), .sh (KB ks), .sh (.lst gr), .sh (.int 8), .sh (.int sz), .no, .no] = .ret (.tup [.tup [.str "scale", .tup [.int f, .int 3], .int (i : Nat)], .str "matrix", .int ga]) from by unfold d__law_step; array_get_dec)
theorem ls_8_n (h0 : ixF (KB ks) (.int (i : Nat)) = some (.val (.str "number"))) (h1 : ixF (.lst gr) (.int (i : Nat)) = some (.val (.int ga))) : m__law_step [.int 8, .int (i : Nat), .int (j : Nat), .int f, KB ks, .lst gr, .int 8, .int sz] = .ok (.tup [.tup [.str "scale", .tup [.int f, .int 3], .int (i : Nat)], .str "number", .int ga]) := by
  exact lst_run (show d__law_step [.sh (.int 8), .sh (.int (i : Nat)), .sh (.int (j : Nat)), .sh (.int f), .sh (KB ks), .sh (.lst gr), .sh (.int 8), .sh (.int sz), .no, .no] = .ret (.tup [.tup [.str "scale", .tup [.int f, .int 3], .int (i : Nat)], .str "number", .int ga]) from by unfold d__law_step; array_get_dec)
theorem ls_9_m (h0 : ixF (KB ks) (.int (i : Nat)) = some (.val (.str "matrix"))) (h1 : ixF (.lst gr) (.int (i : Nat)) = some (.val (.int ga))) (h2 : mulF (.int sz) (.int ga) = some (.val (.int (sz * ga)))) (h3 : ltF (.int 0) (.int (sz * ga)) = some (.val (.bl true))) (h4 : leF (.int (sz * ga)) (.int 8) = some (.val (.bl true))) : m__law_step [.int 9, .int (i : Nat), .int (j : Nat), .int f, KB ks, .lst gr, .int 8, .int sz] = .ok (.tup [.tup [.str "inverse", .int (i : Nat)], .str "matrix", .int (sz * ga)]) := by
  exact lst_run (show d__law_step [.sh (.int 9), .sh (.int (i : Nat)), .sh (.int (j : Nat)), .sh (.int f), .sh (KB ks), .sh (.lst gr), .sh (.int 8), .sh (.int sz), .no, .no] = .ret (.tup [.tup [.str "inverse", .int (i : Nat)], .str "matrix", .int (sz * ga)]) from by unfold d__law_step; array_get_dec)
theorem ls_9_a (h0 : ixF (KB ks) (.int (i : Nat)) = some (.val (.str "matrix"))) (h1 : ixF (.lst gr) (.int (i : Nat)) = some (.val (.int ga))) (h2 : mulF (.int sz) (.int ga) = some (.val (.int (sz * ga)))) (h3 : ltF (.int 0) (.int (sz * ga)) = some (.val (.bl true))) (h4 : leF (.int (sz * ga)) (.int 8) = some (.val (.bl false))) : m__law_step [.int 9, .int (i : Nat), .int (j : Nat), .int f, KB ks, .lst gr, .int 8, .int sz] = .ok (.tup [.tup [.str "scale", .tup [.int f, .int 3], .int (i : Nat)], .str "matrix", .int ga]) := by
  exact lst_run (show d__law_step [.sh (.int 9), .sh (.int (i : Nat)), .sh (.int (j : Nat)), .sh (.int f), .sh (KB ks), .sh (.lst gr), .sh (.int 8), .sh (.int sz), .no, .no] = .ret (.tup [.tup [.str "scale", .tup [.int f, .int 3], .int (i : Nat)], .str "matrix", .int ga]) from by unfold d__law_step; array_get_dec)
theorem ls_9_b (h0 : ixF (KB ks) (.int (i : Nat)) = some (.val (.str "matrix"))) (h1 : ixF (.lst gr) (.int (i : Nat)) = some (.val (.int ga))) (h2 : mulF (.int sz) (.int ga) = some (.val (.int (sz * ga)))) (h3 : ltF (.int 0) (.int (sz * ga)) = some (.val (.bl false))) : m__law_step [.int 9, .int (i : Nat), .int (j : Nat), .int f, KB ks, .lst gr, .int 8, .int sz] = .ok (.tup [.tup [.str "scale", .tup [.int f, .int 3], .int (i : Nat)], .str "matrix", .int ga]) := by
  exact lst_run (show d__law_step [.sh (.int 9), .sh (.int (i : Nat)), .sh (.int (j : Nat)), .sh (.int f), .sh (KB ks), .sh (.lst gr), .sh (.int 8), .sh (.int sz), .no, .no] = .ret (.tup [.tup [.str "scale", .tup [.int f, .int 3], .int (i : Nat)], .str "matrix", .int ga]) from by unfold d__law_step; array_get_dec)
theorem ls_9_n (h0 : ixF (KB ks) (.int (i : Nat)) = some (.val (.str "number"))) (h1 : ixF (.lst gr) (.int (i : Nat)) = some (.val (.int ga))) : m__law_step [.int 9, .int (i : Nat), .int (j : Nat), .int f, KB ks, .lst gr, .int 8, .int sz] = .ok (.tup [.tup [.str "scale", .tup [.int f, .int 3], .int (i : Nat)], .str "number", .int ga]) := by
  exact lst_run (show d__law_step [.sh (.int 9), .sh (.int (i : Nat)), .sh (.int (j : Nat)), .sh (.int f), .sh (KB ks), .sh (.lst gr), .sh (.int 8), .sh (.int sz), .no, .no] = .ret (.tup [.tup [.str "scale", .tup [.int f, .int 3], .int (i : Nat)], .str "number", .int ga]) from by unfold d__law_step; array_get_dec)
theorem ls_10_m (h0 : ixF (KB ks) (.int (i : Nat)) = some (.val (.str "matrix"))) (h1 : ixF (.lst gr) (.int (i : Nat)) = some (.val (.int ga))) : m__law_step [.int 10, .int (i : Nat), .int (j : Nat), .int f, KB ks, .lst gr, .int 8, .int sz] = .ok (.tup [.tup [.str "one"], .str "matrix", .int 0]) := by
  exact lst_run (show d__law_step [.sh (.int 10), .sh (.int (i : Nat)), .sh (.int (j : Nat)), .sh (.int f), .sh (KB ks), .sh (.lst gr), .sh (.int 8), .sh (.int sz), .no, .no] = .ret (.tup [.tup [.str "one"], .str "matrix", .int 0]) from by unfold d__law_step; array_get_dec)
theorem ls_11_m (h0 : ixF (KB ks) (.int (i : Nat)) = some (.val (.str "matrix"))) (h1 : ixF (.lst gr) (.int (i : Nat)) = some (.val (.int ga))) : m__law_step [.int 11, .int (i : Nat), .int (j : Nat), .int f, KB ks, .lst gr, .int 8, .int sz] = .ok (.tup [.tup [.str "const", .tup [.int f, .int 2]], .str "number", .int 0]) := by
  exact lst_run (show d__law_step [.sh (.int 11), .sh (.int (i : Nat)), .sh (.int (j : Nat)), .sh (.int f), .sh (KB ks), .sh (.lst gr), .sh (.int 8), .sh (.int sz), .no, .no] = .ret (.tup [.tup [.str "const", .tup [.int f, .int 2]], .str "number", .int 0]) from by unfold d__law_step; array_get_dec)
theorem ls_10_n (h0 : ixF (KB ks) (.int (i : Nat)) = some (.val (.str "number"))) (h1 : ixF (.lst gr) (.int (i : Nat)) = some (.val (.int ga))) : m__law_step [.int 10, .int (i : Nat), .int (j : Nat), .int f, KB ks, .lst gr, .int 8, .int sz] = .ok (.tup [.tup [.str "one"], .str "matrix", .int 0]) := by
  exact lst_run (show d__law_step [.sh (.int 10), .sh (.int (i : Nat)), .sh (.int (j : Nat)), .sh (.int f), .sh (KB ks), .sh (.lst gr), .sh (.int 8), .sh (.int sz), .no, .no] = .ret (.tup [.tup [.str "one"], .str "matrix", .int 0]) from by unfold d__law_step; array_get_dec)
theorem ls_11_n (h0 : ixF (KB ks) (.int (i : Nat)) = some (.val (.str "number"))) (h1 : ixF (.lst gr) (.int (i : Nat)) = some (.val (.int ga))) : m__law_step [.int 11, .int (i : Nat), .int (j : Nat), .int f, KB ks, .lst gr, .int 8, .int sz] = .ok (.tup [.tup [.str "const", .tup [.int f, .int 2]], .str "number", .int 0]) := by
  exact lst_run (show d__law_step [.sh (.int 11), .sh (.int (i : Nat)), .sh (.int (j : Nat)), .sh (.int f), .sh (KB ks), .sh (.lst gr), .sh (.int 8), .sh (.int sz), .no, .no] = .ret (.tup [.tup [.str "const", .tup [.int f, .int 2]], .str "number", .int 0]) from by unfold d__law_step; array_get_dec)
end

/-! M27o (printed by mko.py): what _law_step makes is a step that can follow. -/
def StOk (L : Str) (ks : List Bool) (i : Nat) (r : Res) : Prop := ∃ s k g, r = .ok (.tup [lawD s, .str (kS k), .int g]) ∧ s.fr L ∧ s.idx ks.length ∧ kindOf ks s = some k ∧ 0 ≤ g ∧ g ≤ 8 ∧ (∀ i', s = .inverse i' → i' = i ∧ atB ks i = true)
theorem mul_small {i j : Int} (h1 : i.natAbs < 2 ^ 200) (h2 : j.natAbs < 2 ^ 200) : mulF (.int i) (.int j) = some (.val (.int (i * j))) := by
  have l1 : i.natAbs.log2 < 200 := by
    by_cases h0 : i.natAbs = 0
    · rw [h0]; decide
    · exact (Nat.log2_lt h0).mpr h1
  have l2 : j.natAbs.log2 < 200 := by
    by_cases h0 : j.natAbs = 0
    · rw [h0]; decide
    · exact (Nat.log2_lt h0).mpr h2
  show (if mulOk i j = true then ov (.int (i * j)) else none) = _
  have : mulOk i j = true := by
    unfold mulOk
    exact decide_eq_true
        (by omega)
  rw [if_pos this]
  rfl
theorem ix_gr {gr : List Int} {i : Nat} (h : i < gr.length) : ixF (.lst (gr.map D.int)) (.int (i : Nat)) = some (.val (.int (gr.getD i 0))) := by
  show (ixD (gr.map D.int) (i : Nat)).map Opd.val = _
  unfold ixD
  rw [if_pos (by omega), if_pos (by rw [List.length_map]; omega), Int.toNat_natCast, List.getElem?_map, List.getElem?_eq_getElem h, List.getD_eq_getElem?_getD, List.getElem?_eq_getElem h]
  rfl
theorem getD_of {gr : List Int} {p : Int → Prop} (h : ∀ g ∈ gr, p g) {i : Nat} (hi : i < gr.length) : p (gr.getD i 0) := by
  rw [List.getD_eq_getElem?_getD,
      List.getElem?_eq_getElem hi]
  exact h _ (List.getElem_mem hi)
section
variable {L : Str} {ks : List Bool} {gr : List Int} {i j : Nat} {f sz : Int} {p : Nat}
theorem law_step_ok (hp : p < 12) (hi : i < ks.length) (hj : j < ks.length) (hg : gr.length = ks.length) (hgr : ∀ g ∈ gr, 0 ≤ g ∧ g ≤ 8) (h1 : 1 ≤ sz) (h3 : sz ≤ 3) (f1 : -3 ≤ f) (f3 : f ≤ 3) :
    StOk L ks i (m__law_step [.int (p : Nat), .int (i : Nat), .int (j : Nat), .int f, KB ks, .lst (gr.map D.int), .int 8, .int sz]) := by
  have GI := ix_gr (gr := gr) (i := i) (by omega)
  have GJ := ix_gr (gr := gr) (i := j) (by omega)
  have bi := getD_of hgr (i := i) (by omega)
  have bj := getD_of hgr (i := j) (by omega)
  generalize gr.getD i 0 = ga at GI bi
  generalize gr.getD j 0 = gb at GJ bj
  generalize gr.map D.int = gs at GI GJ
  have M2 := mul_small (i := 2) (j := ga) (by decide) (by omega)
  have MS := mul_small (i := sz) (j := ga) (by omega) (by omega)
  have bm : sz * ga ≤ 24 := by
    have : sz = 1 ∨ sz = 2 ∨ sz = 3 := by omega
    rcases this with rfl | rfl | rfl <;> omega
  have b0 : 0 ≤ sz * ga := by
    have : sz = 1 ∨ sz = 2 ∨ sz = 3 := by omega
    rcases this with rfl | rfl | rfl <;> omega
  have KI := ix_KB hi
  have KJ := ix_KB hj
  have lT : ∀ {x y : Int}, x ≤ y → leF (.int x) (.int y) = some (.val (.bl true)) := fun h => x_le (decide_eq_true h)
  have lF : ∀ {x y : Int}, ¬ x ≤ y → leF (.int x) (.int y) = some (.val (.bl false)) := fun h => x_le (decide_eq_false h)
  have tT : ∀ {x y : Int}, x < y → ltF (.int x) (.int y) = some (.val (.bl true)) := fun h => x_lt (decide_eq_true h)
  have tF : ∀ {x y : Int}, ¬ x < y → ltF (.int x) (.int y) = some (.val (.bl false)) := fun h => x_lt (decide_eq_false h)
  obtain ⟨n2, e2, t2, F2⟩ := fr2 f f1 f3
  obtain ⟨n3, e3, t3, F3⟩ := fr3 f f1 f3
  have noInv : ∀ {s : Sk}, (∀ i', s ≠ .inverse i') → ∀ i', s = .inverse i' → i' = i ∧ atB ks i = true := fun h i' e => absurd e (h i')
  cases ha : atB ks i <;> cases hb : atB ks j <;> rw [ha] at KI <;> rw [hb] at KJ
  · have hq : p = 0 ∨ p = 1 ∨ p = 2 ∨ p = 3 ∨ p = 4 ∨ p = 5 ∨ p = 6 ∨ p = 7 ∨ p = 8 ∨ p = 9 ∨ p = 10 ∨ p = 11 := by omega
    rcases hq with rfl | rfl | rfl | rfl | rfl | rfl | rfl | rfl | rfl | rfl | rfl | rfl
    · by_cases hle : ga + gb ≤ 8
      · exact ⟨.times i j, false, ga + gb, ls_0_nn KI KJ GI GJ (lT hle), trivial, ⟨hi, hj⟩, (by show some (if atB ks i = atB ks j then atB ks i else true) = _; rw [ha, hb]; rfl), by omega, by omega, noInv (fun _ => by intro h; cases h)⟩
      · exact ⟨.scale f n3 e3 t3 i, false, ga, ls_0_xn KI GI GJ (lF hle), F3, hi, (by show some (atB ks i) = _; rw [ha]), by omega, by omega, noInv (fun _ => by intro h; cases h)⟩
    · by_cases hle : ga + gb ≤ 8
      · exact ⟨.times i j, false, ga + gb, ls_1_nn KI KJ GI GJ (lT hle), trivial, ⟨hi, hj⟩, (by show some (if atB ks i = atB ks j then atB ks i else true) = _; rw [ha, hb]; rfl), by omega, by omega, noInv (fun _ => by intro h; cases h)⟩
      · exact ⟨.scale f n3 e3 t3 i, false, ga, ls_1_xn KI GI GJ (lF hle), F3, hi, (by show some (atB ks i) = _; rw [ha]), by omega, by omega, noInv (fun _ => by intro h; cases h)⟩
    · by_cases hle : ga + gb ≤ 8
      · exact ⟨.times i j, false, ga + gb, ls_2_nn KI KJ GI GJ (lT hle), trivial, ⟨hi, hj⟩, (by show some (if atB ks i = atB ks j then atB ks i else true) = _; rw [ha, hb]; rfl), by omega, by omega, noInv (fun _ => by intro h; cases h)⟩
      · by_cases hl2 : 2 * ga ≤ 8
        · exact ⟨.power i, false, 2 * ga, ls_2_pn KI GI GJ (lF hle) M2 (lT hl2), trivial, hi, (by show some (atB ks i) = _; rw [ha]), by omega, by omega, noInv (fun _ => by intro h; cases h)⟩
        · exact ⟨.scale f n3 e3 t3 i, false, ga, ls_2_xn KI GI GJ (lF hle) M2 (lF hl2), F3, hi, (by show some (atB ks i) = _; rw [ha]), by omega, by omega, noInv (fun _ => by intro h; cases h)⟩
    · have hmx : 0 ≤ (if gb > ga then gb else ga) ∧ (if gb > ga then gb else ga) ≤ 8 := by split <;> omega
      exact ⟨.sum i j, false, _, ls_3_n KI KJ GI GJ, trivial, ⟨hi, hj⟩, (by show (if atB ks i = atB ks j then some (atB ks i) else none) = _; rw [ha, hb]; rfl), hmx.1, hmx.2, noInv (fun _ => by intro h; cases h)⟩
    · have hmx : 0 ≤ (if gb > ga then gb else ga) ∧ (if gb > ga then gb else ga) ≤ 8 := by split <;> omega
      exact ⟨.diff i j, false, _, ls_4_n KI KJ GI GJ, trivial, ⟨hi, hj⟩, (by show (if atB ks i = atB ks j then some (atB ks i) else none) = _; rw [ha, hb]; rfl), hmx.1, hmx.2, noInv (fun _ => by intro h; cases h)⟩
    · have hmx : 0 ≤ (if gb > ga then gb else ga) ∧ (if gb > ga then gb else ga) ≤ 8 := by split <;> omega
      exact ⟨.sum i j, false, _, ls_5_n KI KJ GI GJ, trivial, ⟨hi, hj⟩, (by show (if atB ks i = atB ks j then some (atB ks i) else none) = _; rw [ha, hb]; rfl), hmx.1, hmx.2, noInv (fun _ => by intro h; cases h)⟩
    · exact ⟨.scale f n3 e3 t3 i, false, ga, ls_6_n KI GI, F3, hi, (by show some (atB ks i) = _; rw [ha]), by omega, by omega, noInv (fun _ => by intro h; cases h)⟩
    · exact ⟨.scale f n3 e3 t3 i, false, ga, ls_7_n KI GI, F3, hi, (by show some (atB ks i) = _; rw [ha]), by omega, by omega, noInv (fun _ => by intro h; cases h)⟩
    · exact ⟨.scale f n3 e3 t3 i, false, ga, ls_8_n KI GI, F3, hi, (by show some (atB ks i) = _; rw [ha]), by omega, by omega, noInv (fun _ => by intro h; cases h)⟩
    · exact ⟨.scale f n3 e3 t3 i, false, ga, ls_9_n KI GI, F3, hi, (by show some (atB ks i) = _; rw [ha]), by omega, by omega, noInv (fun _ => by intro h; cases h)⟩
    · exact ⟨.one, true, 0, ls_10_n KI GI, trivial, trivial, rfl, by omega, by omega, noInv (fun _ => by intro h; cases h)⟩
    · exact ⟨.const f n2 e2 t2, false, 0, ls_11_n KI GI, F2, trivial, rfl, by omega, by omega, noInv (fun _ => by intro h; cases h)⟩
  · have hq : p = 0 ∨ p = 1 ∨ p = 2 ∨ p = 3 ∨ p = 4 ∨ p = 5 ∨ p = 6 ∨ p = 7 ∨ p = 8 ∨ p = 9 ∨ p = 10 ∨ p = 11 := by omega
    rcases hq with rfl | rfl | rfl | rfl | rfl | rfl | rfl | rfl | rfl | rfl | rfl | rfl
    · by_cases hle : ga + gb ≤ 8
      · exact ⟨.times i j, true, ga + gb, ls_0_nm KI KJ GI GJ (lT hle), trivial, ⟨hi, hj⟩, (by show some (if atB ks i = atB ks j then atB ks i else true) = _; rw [ha, hb]; rfl), by omega, by omega, noInv (fun _ => by intro h; cases h)⟩
      · exact ⟨.scale f n3 e3 t3 i, false, ga, ls_0_xn KI GI GJ (lF hle), F3, hi, (by show some (atB ks i) = _; rw [ha]), by omega, by omega, noInv (fun _ => by intro h; cases h)⟩
    · by_cases hle : ga + gb ≤ 8
      · exact ⟨.times i j, true, ga + gb, ls_1_nm KI KJ GI GJ (lT hle), trivial, ⟨hi, hj⟩, (by show some (if atB ks i = atB ks j then atB ks i else true) = _; rw [ha, hb]; rfl), by omega, by omega, noInv (fun _ => by intro h; cases h)⟩
      · exact ⟨.scale f n3 e3 t3 i, false, ga, ls_1_xn KI GI GJ (lF hle), F3, hi, (by show some (atB ks i) = _; rw [ha]), by omega, by omega, noInv (fun _ => by intro h; cases h)⟩
    · by_cases hle : ga + gb ≤ 8
      · exact ⟨.times i j, true, ga + gb, ls_2_nm KI KJ GI GJ (lT hle), trivial, ⟨hi, hj⟩, (by show some (if atB ks i = atB ks j then atB ks i else true) = _; rw [ha, hb]; rfl), by omega, by omega, noInv (fun _ => by intro h; cases h)⟩
      · by_cases hl2 : 2 * ga ≤ 8
        · exact ⟨.power i, false, 2 * ga, ls_2_pn KI GI GJ (lF hle) M2 (lT hl2), trivial, hi, (by show some (atB ks i) = _; rw [ha]), by omega, by omega, noInv (fun _ => by intro h; cases h)⟩
        · exact ⟨.scale f n3 e3 t3 i, false, ga, ls_2_xn KI GI GJ (lF hle) M2 (lF hl2), F3, hi, (by show some (atB ks i) = _; rw [ha]), by omega, by omega, noInv (fun _ => by intro h; cases h)⟩
    · exact ⟨.scale f n3 e3 t3 i, false, ga, ls_3_xn KI KJ GI GJ, F3, hi, (by show some (atB ks i) = _; rw [ha]), by omega, by omega, noInv (fun _ => by intro h; cases h)⟩
    · exact ⟨.scale f n3 e3 t3 i, false, ga, ls_4_xn KI KJ GI GJ, F3, hi, (by show some (atB ks i) = _; rw [ha]), by omega, by omega, noInv (fun _ => by intro h; cases h)⟩
    · exact ⟨.scale f n3 e3 t3 i, false, ga, ls_5_xn KI KJ GI GJ, F3, hi, (by show some (atB ks i) = _; rw [ha]), by omega, by omega, noInv (fun _ => by intro h; cases h)⟩
    · exact ⟨.scale f n3 e3 t3 i, false, ga, ls_6_n KI GI, F3, hi, (by show some (atB ks i) = _; rw [ha]), by omega, by omega, noInv (fun _ => by intro h; cases h)⟩
    · exact ⟨.scale f n3 e3 t3 i, false, ga, ls_7_n KI GI, F3, hi, (by show some (atB ks i) = _; rw [ha]), by omega, by omega, noInv (fun _ => by intro h; cases h)⟩
    · exact ⟨.scale f n3 e3 t3 i, false, ga, ls_8_n KI GI, F3, hi, (by show some (atB ks i) = _; rw [ha]), by omega, by omega, noInv (fun _ => by intro h; cases h)⟩
    · exact ⟨.scale f n3 e3 t3 i, false, ga, ls_9_n KI GI, F3, hi, (by show some (atB ks i) = _; rw [ha]), by omega, by omega, noInv (fun _ => by intro h; cases h)⟩
    · exact ⟨.one, true, 0, ls_10_n KI GI, trivial, trivial, rfl, by omega, by omega, noInv (fun _ => by intro h; cases h)⟩
    · exact ⟨.const f n2 e2 t2, false, 0, ls_11_n KI GI, F2, trivial, rfl, by omega, by omega, noInv (fun _ => by intro h; cases h)⟩
  · have hq : p = 0 ∨ p = 1 ∨ p = 2 ∨ p = 3 ∨ p = 4 ∨ p = 5 ∨ p = 6 ∨ p = 7 ∨ p = 8 ∨ p = 9 ∨ p = 10 ∨ p = 11 := by omega
    rcases hq with rfl | rfl | rfl | rfl | rfl | rfl | rfl | rfl | rfl | rfl | rfl | rfl
    · by_cases hle : ga + gb ≤ 8
      · exact ⟨.times i j, true, ga + gb, ls_0_mn KI KJ GI GJ (lT hle), trivial, ⟨hi, hj⟩, (by show some (if atB ks i = atB ks j then atB ks i else true) = _; rw [ha, hb]; rfl), by omega, by omega, noInv (fun _ => by intro h; cases h)⟩
      · exact ⟨.scale f n3 e3 t3 i, true, ga, ls_0_xm KI GI GJ (lF hle), F3, hi, (by show some (atB ks i) = _; rw [ha]), by omega, by omega, noInv (fun _ => by intro h; cases h)⟩
    · by_cases hle : ga + gb ≤ 8
      · exact ⟨.times i j, true, ga + gb, ls_1_mn KI KJ GI GJ (lT hle), trivial, ⟨hi, hj⟩, (by show some (if atB ks i = atB ks j then atB ks i else true) = _; rw [ha, hb]; rfl), by omega, by omega, noInv (fun _ => by intro h; cases h)⟩
      · exact ⟨.scale f n3 e3 t3 i, true, ga, ls_1_xm KI GI GJ (lF hle), F3, hi, (by show some (atB ks i) = _; rw [ha]), by omega, by omega, noInv (fun _ => by intro h; cases h)⟩
    · by_cases hle : ga + gb ≤ 8
      · exact ⟨.times i j, true, ga + gb, ls_2_mn KI KJ GI GJ (lT hle), trivial, ⟨hi, hj⟩, (by show some (if atB ks i = atB ks j then atB ks i else true) = _; rw [ha, hb]; rfl), by omega, by omega, noInv (fun _ => by intro h; cases h)⟩
      · by_cases hl2 : 2 * ga ≤ 8
        · exact ⟨.power i, true, 2 * ga, ls_2_pm KI GI GJ (lF hle) M2 (lT hl2), trivial, hi, (by show some (atB ks i) = _; rw [ha]), by omega, by omega, noInv (fun _ => by intro h; cases h)⟩
        · exact ⟨.scale f n3 e3 t3 i, true, ga, ls_2_xm KI GI GJ (lF hle) M2 (lF hl2), F3, hi, (by show some (atB ks i) = _; rw [ha]), by omega, by omega, noInv (fun _ => by intro h; cases h)⟩
    · exact ⟨.scale f n3 e3 t3 i, true, ga, ls_3_xm KI KJ GI GJ, F3, hi, (by show some (atB ks i) = _; rw [ha]), by omega, by omega, noInv (fun _ => by intro h; cases h)⟩
    · exact ⟨.scale f n3 e3 t3 i, true, ga, ls_4_xm KI KJ GI GJ, F3, hi, (by show some (atB ks i) = _; rw [ha]), by omega, by omega, noInv (fun _ => by intro h; cases h)⟩
    · exact ⟨.scale f n3 e3 t3 i, true, ga, ls_5_xm KI KJ GI GJ, F3, hi, (by show some (atB ks i) = _; rw [ha]), by omega, by omega, noInv (fun _ => by intro h; cases h)⟩
    · exact ⟨.trace i, false, ga, ls_6_m KI GI, trivial, hi, (by show (if atB ks i = true then some false else none) = _; rw [ha]; rfl), by omega, by omega, noInv (fun _ => by intro h; cases h)⟩
    · exact ⟨.transpose i, true, ga, ls_7_m KI GI, trivial, hi, (by show (if atB ks i = true then some true else none) = _; rw [ha]; rfl), by omega, by omega, noInv (fun _ => by intro h; cases h)⟩
    · by_cases h0 : 0 < sz * ga
      · by_cases h8 : sz * ga ≤ 8
        · exact ⟨.det i, false, sz * ga, ls_8_m KI GI MS (tT h0) (lT h8), trivial, hi, (by show (if atB ks i = true then some false else none) = _; rw [ha]; rfl), by omega, by omega, noInv (fun _ => by intro h; cases h)⟩
        · exact ⟨.scale f n3 e3 t3 i, true, ga, ls_8_a KI GI MS (tT h0) (lF h8), F3, hi, (by show some (atB ks i) = _; rw [ha]), by omega, by omega, noInv (fun _ => by intro h; cases h)⟩
      · exact ⟨.scale f n3 e3 t3 i, true, ga, ls_8_b KI GI MS (tF h0), F3, hi, (by show some (atB ks i) = _; rw [ha]), by omega, by omega, noInv (fun _ => by intro h; cases h)⟩
    · by_cases h0 : 0 < sz * ga
      · by_cases h8 : sz * ga ≤ 8
        · exact ⟨.inverse i, true, sz * ga, ls_9_m KI GI MS (tT h0) (lT h8), trivial, hi, (by show (if atB ks i = true then some true else none) = _; rw [ha]; rfl), by omega, by omega, (fun i' e => by cases e; exact ⟨rfl, ha⟩)⟩
        · exact ⟨.scale f n3 e3 t3 i, true, ga, ls_9_a KI GI MS (tT h0) (lF h8), F3, hi, (by show some (atB ks i) = _; rw [ha]), by omega, by omega, noInv (fun _ => by intro h; cases h)⟩
      · exact ⟨.scale f n3 e3 t3 i, true, ga, ls_9_b KI GI MS (tF h0), F3, hi, (by show some (atB ks i) = _; rw [ha]), by omega, by omega, noInv (fun _ => by intro h; cases h)⟩
    · exact ⟨.one, true, 0, ls_10_m KI GI, trivial, trivial, rfl, by omega, by omega, noInv (fun _ => by intro h; cases h)⟩
    · exact ⟨.const f n2 e2 t2, false, 0, ls_11_m KI GI, F2, trivial, rfl, by omega, by omega, noInv (fun _ => by intro h; cases h)⟩
  · have hq : p = 0 ∨ p = 1 ∨ p = 2 ∨ p = 3 ∨ p = 4 ∨ p = 5 ∨ p = 6 ∨ p = 7 ∨ p = 8 ∨ p = 9 ∨ p = 10 ∨ p = 11 := by omega
    rcases hq with rfl | rfl | rfl | rfl | rfl | rfl | rfl | rfl | rfl | rfl | rfl | rfl
    · by_cases hle : ga + gb ≤ 8
      · exact ⟨.times i j, true, ga + gb, ls_0_mm KI KJ GI GJ (lT hle), trivial, ⟨hi, hj⟩, (by show some (if atB ks i = atB ks j then atB ks i else true) = _; rw [ha, hb]; rfl), by omega, by omega, noInv (fun _ => by intro h; cases h)⟩
      · exact ⟨.scale f n3 e3 t3 i, true, ga, ls_0_xm KI GI GJ (lF hle), F3, hi, (by show some (atB ks i) = _; rw [ha]), by omega, by omega, noInv (fun _ => by intro h; cases h)⟩
    · by_cases hle : ga + gb ≤ 8
      · exact ⟨.times i j, true, ga + gb, ls_1_mm KI KJ GI GJ (lT hle), trivial, ⟨hi, hj⟩, (by show some (if atB ks i = atB ks j then atB ks i else true) = _; rw [ha, hb]; rfl), by omega, by omega, noInv (fun _ => by intro h; cases h)⟩
      · exact ⟨.scale f n3 e3 t3 i, true, ga, ls_1_xm KI GI GJ (lF hle), F3, hi, (by show some (atB ks i) = _; rw [ha]), by omega, by omega, noInv (fun _ => by intro h; cases h)⟩
    · by_cases hle : ga + gb ≤ 8
      · exact ⟨.times i j, true, ga + gb, ls_2_mm KI KJ GI GJ (lT hle), trivial, ⟨hi, hj⟩, (by show some (if atB ks i = atB ks j then atB ks i else true) = _; rw [ha, hb]; rfl), by omega, by omega, noInv (fun _ => by intro h; cases h)⟩
      · by_cases hl2 : 2 * ga ≤ 8
        · exact ⟨.power i, true, 2 * ga, ls_2_pm KI GI GJ (lF hle) M2 (lT hl2), trivial, hi, (by show some (atB ks i) = _; rw [ha]), by omega, by omega, noInv (fun _ => by intro h; cases h)⟩
        · exact ⟨.scale f n3 e3 t3 i, true, ga, ls_2_xm KI GI GJ (lF hle) M2 (lF hl2), F3, hi, (by show some (atB ks i) = _; rw [ha]), by omega, by omega, noInv (fun _ => by intro h; cases h)⟩
    · have hmx : 0 ≤ (if gb > ga then gb else ga) ∧ (if gb > ga then gb else ga) ≤ 8 := by split <;> omega
      exact ⟨.sum i j, true, _, ls_3_m KI KJ GI GJ, trivial, ⟨hi, hj⟩, (by show (if atB ks i = atB ks j then some (atB ks i) else none) = _; rw [ha, hb]; rfl), hmx.1, hmx.2, noInv (fun _ => by intro h; cases h)⟩
    · have hmx : 0 ≤ (if gb > ga then gb else ga) ∧ (if gb > ga then gb else ga) ≤ 8 := by split <;> omega
      exact ⟨.diff i j, true, _, ls_4_m KI KJ GI GJ, trivial, ⟨hi, hj⟩, (by show (if atB ks i = atB ks j then some (atB ks i) else none) = _; rw [ha, hb]; rfl), hmx.1, hmx.2, noInv (fun _ => by intro h; cases h)⟩
    · have hmx : 0 ≤ (if gb > ga then gb else ga) ∧ (if gb > ga then gb else ga) ≤ 8 := by split <;> omega
      exact ⟨.sum i j, true, _, ls_5_m KI KJ GI GJ, trivial, ⟨hi, hj⟩, (by show (if atB ks i = atB ks j then some (atB ks i) else none) = _; rw [ha, hb]; rfl), hmx.1, hmx.2, noInv (fun _ => by intro h; cases h)⟩
    · exact ⟨.trace i, false, ga, ls_6_m KI GI, trivial, hi, (by show (if atB ks i = true then some false else none) = _; rw [ha]; rfl), by omega, by omega, noInv (fun _ => by intro h; cases h)⟩
    · exact ⟨.transpose i, true, ga, ls_7_m KI GI, trivial, hi, (by show (if atB ks i = true then some true else none) = _; rw [ha]; rfl), by omega, by omega, noInv (fun _ => by intro h; cases h)⟩
    · by_cases h0 : 0 < sz * ga
      · by_cases h8 : sz * ga ≤ 8
        · exact ⟨.det i, false, sz * ga, ls_8_m KI GI MS (tT h0) (lT h8), trivial, hi, (by show (if atB ks i = true then some false else none) = _; rw [ha]; rfl), by omega, by omega, noInv (fun _ => by intro h; cases h)⟩
        · exact ⟨.scale f n3 e3 t3 i, true, ga, ls_8_a KI GI MS (tT h0) (lF h8), F3, hi, (by show some (atB ks i) = _; rw [ha]), by omega, by omega, noInv (fun _ => by intro h; cases h)⟩
      · exact ⟨.scale f n3 e3 t3 i, true, ga, ls_8_b KI GI MS (tF h0), F3, hi, (by show some (atB ks i) = _; rw [ha]), by omega, by omega, noInv (fun _ => by intro h; cases h)⟩
    · by_cases h0 : 0 < sz * ga
      · by_cases h8 : sz * ga ≤ 8
        · exact ⟨.inverse i, true, sz * ga, ls_9_m KI GI MS (tT h0) (lT h8), trivial, hi, (by show (if atB ks i = true then some true else none) = _; rw [ha]; rfl), by omega, by omega, (fun i' e => by cases e; exact ⟨rfl, ha⟩)⟩
        · exact ⟨.scale f n3 e3 t3 i, true, ga, ls_9_a KI GI MS (tT h0) (lF h8), F3, hi, (by show some (atB ks i) = _; rw [ha]), by omega, by omega, noInv (fun _ => by intro h; cases h)⟩
      · exact ⟨.scale f n3 e3 t3 i, true, ga, ls_9_b KI GI MS (tF h0), F3, hi, (by show some (atB ks i) = _; rw [ha]), by omega, by omega, noInv (fun _ => by intro h; cases h)⟩
    · exact ⟨.one, true, 0, ls_10_m KI GI, trivial, trivial, rfl, by omega, by omega, noInv (fun _ => by intro h; cases h)⟩
    · exact ⟨.const f n2 e2 t2, false, 0, ls_11_m KI GI, F2, trivial, rfl, by omega, by omega, noInv (fun _ => by intro h; cases h)⟩
end

/-! M27m: the letters. -/
def chr1 (i : Nat) : Str := ⟨#[97 + i]⟩
def stepsL : List Nat := [1, 3, 5, 7, 9, 11, 15, 17, 19, 21, 23, 25]
def ltrs (a j m : Nat) : List Str := (List.range m).map fun k => chr1 ((a + stepsL.getD j 1 * k) % 26)
def isVB (o : Option Opd) (b : Bool) : Bool := match o with
  | some (.val (.bl c)) => b == c
  | _ => false
theorem isVB_is {o : Option Opd} {b : Bool} (h : isVB o b = true) : o = some (.val (.bl b)) := by
  unfold isVB at h
  split at h
  · rw [eq_of_beq h]
  · cases h
def isVI (o : Option Opd) (b : Int) : Bool := match o with
  | some (.val (.int c)) => b == c
  | _ => false
theorem isVI_is {o : Option Opd} {b : Int} (h : isVI o b = true) : o = some (.val (.int b)) := by
  unfold isVI at h
  split at h
  · rw [eq_of_beq h]
  · cases h
def isOkS (r : Res) (s : Str) : Bool := match r with
  | .ok (.str c) => decide (s = c)
  | _ => false
theorem isOkS_is {r : Res} {s : Str} (h : isOkS r s = true) : r = .ok (.str s) := by
  unfold isOkS at h
  split at h
  · rw [of_decide_eq_true h]
  · cases h
theorem x_lenSet {a : E} {Γ Γ1 : Env} {s : Str} (ha : a Γ = .ok (.val (.str s)) Γ1) (hl : s.cps.size < 4000) : eLenSet a Γ = .ok (.val (.int (cntS s.cps.toList []))) Γ1 := by
  unfold eLenSet
  rw [ha]
  show (if s.cps.size < 4000 then R.ok (Opd.val (.int (cntS s.cps.toList []))) Γ1 else .stuck) = _
  rw [if_pos hl]
theorem x_iTxt {a : E} {Γ Γ1 : Env} {s : Str} (ha : a Γ = .ok (.val (.str s)) Γ1) : iTxt a Γ = .ok (signs s) Γ1 := by
  unfold iTxt
  rw [ha]
  rfl
theorem low_all : ∀ c < 123, 97 ≤ c → isVB (notInTF (.str ⟨#[c]⟩) g_LOWER_CASE) false = true := by decide +kernel
theorem low_loop {x0 x1 x2 : Slot} : ∀ (cs : List Nat) (s3 : Slot), (∀ c ∈ cs, 97 ≤ c ∧ c < 123) → ∃ s3', forLoop (gN 3) (DP.sIf (DP.tE (DP.eBin DP.notInTF (DP.eV 3) (DP.eC g_LOWER_CASE))) (DP.sRaiseX "InvalidRecipe" "line" (DP.eC (.int 1))) DP.sNext) (cs.map fun c => D.str ⟨#[c]⟩) [x0, x1, x2, s3] = .next [x0, x1, x2, s3']
  | [], s3, _ => ⟨s3, rfl⟩
  | c :: r, s3, h => by
    obtain ⟨s3', h2⟩ := low_loop (x0 := x0) (x1 := x1) (x2 := x2) r (.sh (.str ⟨#[c]⟩)) fun z hz => h z (List.mem_cons_of_mem _ hz)
    have hc := h c List.mem_cons_self
    exact ⟨s3', f_next rfl (x_sIfF (x_tE (x_bin (x_sh rfl) x_eC rfl rfl (isVB_is (low_all c hc.2 hc.1)))) rfl) h2⟩
theorem read_let0 : m__read_letters [.str "recipe -"] = .ok (.str "") := by kernel_rfl
theorem read_let {L : Str} (h1 : 1 ≤ L.length) (h6 : L.length ≤ 6) (hs : 32 ∉ L.cps.toList) (hd : eqF (.str L) (.str "-") = some (.val (.bl false))) (hc : cntS L.cps.toList [] = L.length) (ha : ∀ c ∈ L.cps.toList, 97 ≤ c ∧ c < 123) : m__read_letters [.str ("recipe " ++ L)] = .ok (.str L) := by
  have e : ("recipe " ++ L : Str) = Txt.join " " ["recipe", L] := by
    rw [two_words, show ("recipe" : Str) ++ " " = "recipe " by kernel_rfl]
  have hsp : Txt.split ("recipe " ++ L) " " = (["recipe", L] : List Str) := by
    rw [e]
    refine TL.split_join (s := 32) (S := []) (by decide +kernel) (by decide +kernel) (List.cons_ne_nil _ _) fun w hw => ?_
    rcases List.mem_cons.mp hw with rfl | hw
    · decide +kernel
    · rw [List.mem_singleton.mp hw]
      exact hs
  have hL2 := len2 (.str "recipe") (.str L)
  have hT : lenTF [.str L] = some (.val (.int (L.length : Nat))) := by
    show (if L.length ≤ 1000000 then ov (.int (L.length : Nat)) else none) = _
    rw [if_pos (by omega)]
    rfl
  obtain ⟨s3', h2⟩ := low_loop (x0 := .sh (.str ("recipe " ++ L))) (x1 := .ow (.lst [.str "recipe", .str L])) (x2 := .sh (.str L)) L.cps.toList .no ha
  have hsz : L.cps.size < 4000 := by
    have : L.cps.size = L.length := rfl
    omega
  refine run_ret rfl ?_
  show d__read_letters [.sh (.str ("recipe " ++ L)), .no, .no, .no] = _
  unfold d__read_letters
  refine x_seq (x_setf (x_m1 (x_sh rfl) rfl x_eC rfl (split_is hsp (by rw [app_len]; have : ("recipe " : Str).length = 7 := by decide +kernel
                                                                       omega)))) ?_
  refine x_seq (x_sIfF (x_tOr (x_tE (x_bin (x_cb (x_cons (x_ow rfl) x_nil) rfl hL2) x_eC rfl rfl (x_nei rfl))) (ite_f rfl (x_tE (x_bin (x_bin (x_ow rfl) x_eC rfl rfl (i0 _ _)) x_eC rfl rfl (show neF (.str "recipe") (.str "recipe") = some (.val (.bl false)) by kernel_rfl))))) rfl) ?_
  refine x_seq (x_setv (x_bin (x_ow rfl) x_eC rfl rfl (i1 _ _ _))) ?_
  refine x_seq (x_sIfF (x_tE (x_bin (x_sh rfl) x_eC rfl rfl hd)) rfl) ?_
  refine x_seq (x_sIfF (x_tOr (x_tNot (x_tE (x_chT x_eC (x_cb (x_cons (x_sh rfl) x_nil) rfl hT) rfl rfl (x_le (decide_eq_true (by omega))) x_eC rfl (x_le (decide_eq_true (by omega)))))) (ite_f rfl (x_tE (x_bin (x_lenSet (x_sh rfl) hsz) (x_cb (x_cons (x_sh rfl) x_nil) rfl hT) rfl rfl (x_lt (decide_eq_false (by rw [hc]; omega))))))) rfl) ?_
  refine x_seq (x_for (x_iTxt (x_sh rfl)) h2) ?_
  exact x_ret (x_sh rfl) rfl
def chkL (L c : Str) : Bool := isVI (lenTF [.str c]) 1 && isVB (inTF (.str c) (.str L)) true && okS c && !c.cps.toList.contains 32 && !c.cps.toList.contains 10 && decide (c.length ≤ 5)
def chkR (L : Str) : Bool := if L.length = 0 then decide (L = "") else (isVB (eqF (.str L) (.str "-")) false && decide (cntS L.cps.toList [] = L.length) && L.cps.toList.all fun c => decide (97 ≤ c) && decide (c < 123))
def chkA (ls : List Str) (L : Str) : Bool := chkR L && decide (L.length ≤ 6) && !L.cps.toList.contains 32 && !L.cps.toList.contains 10 && okS L && isVB (inTF (.str "A") (.str L)) false && (L.length == 0) == (ls.length == 0) && ls.all (chkL L)
def chk (a j m : Nat) : Bool := chkA (ltrs a j m) (Txt.join "" (ltrs a j m))
theorem read_of {L : Str} (h : chkR L = true) (h6 : L.length ≤ 6) (hs : 32 ∉ L.cps.toList) : m__read_letters [.str (headS L)] = .ok (.str L) := by
  unfold chkR at h
  by_cases h0 : L.length = 0
  · rw [if_pos h0] at h
    rw [of_decide_eq_true h]
    exact read_let0
  · rw [if_neg h0] at h
    simp only [Bool.and_eq_true, decide_eq_true_eq, List.all_eq_true] at h
    rw [show headS L = "recipe " ++ L from if_neg h0]
    exact read_let (by omega) h6 hs (isVB_is h.1.1) h.1.2 h.2
def chkJ (a j : Nat) : Bool := chk a j 0 && chk a j 1 && chk a j 2 && chk a j 3 && chk a j 4
def chkS (a : Nat) : Bool := (List.range 12).all (chkJ a)
theorem chk_0 : chkS 0 = true := by decide +kernel
theorem chk_1 : chkS 1 = true := by decide +kernel
theorem chk_2 : chkS 2 = true := by decide +kernel
theorem chk_3 : chkS 3 = true := by decide +kernel
theorem chk_4 : chkS 4 = true := by decide +kernel
theorem chk_5 : chkS 5 = true := by decide +kernel
theorem chk_6 : chkS 6 = true := by decide +kernel
theorem chk_7 : chkS 7 = true := by decide +kernel
theorem chk_8 : chkS 8 = true := by decide +kernel
theorem chk_9 : chkS 9 = true := by decide +kernel
theorem chk_10 : chkS 10 = true := by decide +kernel
theorem chk_11 : chkS 11 = true := by decide +kernel
theorem chk_12 : chkS 12 = true := by decide +kernel
theorem chk_13 : chkS 13 = true := by decide +kernel
theorem chk_14 : chkS 14 = true := by decide +kernel
theorem chk_15 : chkS 15 = true := by decide +kernel
theorem chk_16 : chkS 16 = true := by decide +kernel
theorem chk_17 : chkS 17 = true := by decide +kernel
theorem chk_18 : chkS 18 = true := by decide +kernel
theorem chk_19 : chkS 19 = true := by decide +kernel
theorem chk_20 : chkS 20 = true := by decide +kernel
theorem chk_21 : chkS 21 = true := by decide +kernel
theorem chk_22 : chkS 22 = true := by decide +kernel
theorem chk_23 : chkS 23 = true := by decide +kernel
theorem chk_24 : chkS 24 = true := by decide +kernel
theorem chk_25 : chkS 25 = true := by decide +kernel
theorem chkS_all : ∀ a < 26, chkS a = true := by
  intro a ha
  match a, ha with
  | 0, _ => exact chk_0
  | 1, _ => exact chk_1
  | 2, _ => exact chk_2
  | 3, _ => exact chk_3
  | 4, _ => exact chk_4
  | 5, _ => exact chk_5
  | 6, _ => exact chk_6
  | 7, _ => exact chk_7
  | 8, _ => exact chk_8
  | 9, _ => exact chk_9
  | 10, _ => exact chk_10
  | 11, _ => exact chk_11
  | 12, _ => exact chk_12
  | 13, _ => exact chk_13
  | 14, _ => exact chk_14
  | 15, _ => exact chk_15
  | 16, _ => exact chk_16
  | 17, _ => exact chk_17
  | 18, _ => exact chk_18
  | 19, _ => exact chk_19
  | 20, _ => exact chk_20
  | 21, _ => exact chk_21
  | 22, _ => exact chk_22
  | 23, _ => exact chk_23
  | 24, _ => exact chk_24
  | 25, _ => exact chk_25
  | a + 26, h => exact absurd h (by omega)
theorem chk_all : ∀ a < 26, ∀ j < 12, ∀ m < 5, chk a j m = true := by
  intro a ha j hj m hm
  have h := chkS_all a ha
  unfold chkS at h
  rw [List.all_eq_true] at h
  have h := h j (List.mem_range.mpr hj)
  unfold chkJ at h
  simp only
      [Bool.and_eq_true] at h
  have hm : m = 0 ∨ m = 1 ∨ m = 2 ∨ m = 3 ∨ m = 4 := by omega
  rcases hm with rfl | rfl | rfl | rfl | rfl
  · exact h.1.1.1.1
  · exact h.1.1.1.2
  · exact h.1.1.2
  · exact h.1.2
  · exact h.2

/-! M27p: _law_steps. -/
def pBody : DP.S := (DP.sSeq (DP.sSet 12 (DP.eBin DP.modF (DP.eCB DP.intF (DP.aCons (DP.eV 0) DP.aNil)) (DP.eC (.int 12))))
    (DP.sSeq (DP.sSet 13 (DP.eBin DP.modF (DP.eCB DP.intF (DP.aCons (DP.eBin DP.fdivF (DP.eV 0) (DP.eC (.int 12))) DP.aNil)) (DP.eCB DP.lenF (DP.aCons (DP.eV 6) DP.aNil))))
    (DP.sSeq (DP.sSet 14 (DP.eBin DP.modF (DP.eCB DP.intF (DP.aCons (DP.eBin DP.fdivF (DP.eBin DP.fdivF (DP.eV 0) (DP.eC (.int 12))) (DP.eCB DP.lenF (DP.aCons (DP.eV 6) DP.aNil))) DP.aNil)) (DP.eCB DP.lenF (DP.aCons (DP.eV 6) DP.aNil))))
    (DP.sSeq (DP.sSet 15 (DP.eBin DP.subF (DP.eBin DP.modF (DP.eCB DP.intF (DP.aCons (DP.eBin DP.fdivF (DP.eV 0) (DP.eC (.int 5))) DP.aNil)) (DP.eC (.int 7))) (DP.eC (.int 3))))
    (DP.sSeq (DP.sSet 0 (DP.eBin DP.fdivF (DP.eBin DP.fdivF (DP.eBin DP.fdivF (DP.eV 0) (DP.eC (.int 12))) (DP.eCB DP.lenF (DP.aCons (DP.eV 6) DP.aNil))) (DP.eCB DP.lenF (DP.aCons (DP.eV 6) DP.aNil))))
    (DP.sSeq (DP.sSet 16 (DP.eCall m__law_step (DP.aCons (DP.eV 12) (DP.aCons (DP.eV 13) (DP.aCons (DP.eV 14) (DP.aCons (DP.eV 15) (DP.aCons (DP.eV 8) (DP.aCons (DP.eV 9) (DP.aCons (DP.eV 3) (DP.aCons (DP.eV 5) DP.aNil))))))))))
    (DP.sSeq (DP.sIf (DP.tE (DP.eBin DP.eqF (DP.eBin DP.ixF (DP.eBin DP.ixF (DP.eV 16) (DP.eC (.int 0))) (DP.eC (.int 0))) (DP.eC (.str "inverse")))) (DP.sSeq (DP.sIf (DP.tE (DP.eBin DP.eqF (DP.eV 10) (DP.eC (.int 0)))) (DP.sSet 16 (DP.eTup (DP.aCons (DP.eTup (DP.aCons (DP.eC (.str "transpose")) (DP.aCons (DP.eV 13) DP.aNil))) (DP.aCons (DP.eC (.str "matrix")) (DP.aCons (DP.eBin DP.ixF (DP.eV 9) (DP.eV 13)) DP.aNil))))) DP.sNext)
    (DP.sSet 10 (DP.eCB DP.max2F (DP.aCons (DP.eBin DP.subF (DP.eV 10) (DP.eC (.int 1))) (DP.aCons (DP.eC (.int 0)) DP.aNil))))) DP.sNext)
    (DP.sSeq (DP.sDrop (DP.eMut DP.appendM 6 (DP.aCons (DP.eBin DP.ixF (DP.eV 16) (DP.eC (.int 0))) DP.aNil)))
    (DP.sSeq (DP.sDrop (DP.eMut DP.appendM 8 (DP.aCons (DP.eBin DP.ixF (DP.eV 16) (DP.eC (.int 1))) DP.aNil)))
    (DP.sDrop (DP.eMut DP.appendM 9 (DP.aCons (DP.eBin DP.ixF (DP.eV 16) (DP.eC (.int 2))) DP.aNil))))))))))))
theorem law_word (s : Sk) : ∃ w, ixF (lawD s) (.int 0) = some (.val (.str w)) ∧ ((eqF (.str w) (.str "inverse") = some (.val (.bl true)) ∧ ∃ i, s = .inverse i) ∨ eqF (.str w) (.str "inverse") = some (.val (.bl false))) := by
  cases s with
  | inverse i => exact ⟨_, t0 _ _, .inl ⟨by kernel_rfl, i, rfl⟩⟩
  | _ => exact ⟨_, t0 _ _, .inr (by kernel_rfl)⟩
theorem noMut_law (s : Sk) (k : Str) (g : Int) : noMut (.tup [lawD s, .str k, .int g]) = true := by cases s <;> rfl
theorem modN {z : Int} {n : Nat} (h : 0 < n) : ∃ i : Nat, i < n ∧ modF (.int z) (.int (n : Nat)) = some (.val (.int (i : Nat))) := by
  refine ⟨(z % (n : Int)).toNat, ?_, ?_⟩
  · have h1 := Int.emod_nonneg z (show (n : Int) ≠ 0 by omega)
    have h2 := Int.emod_lt_of_pos z (show (0 : Int) < n by omega)
    omega
  · have h1 := Int.emod_nonneg z (show (n : Int) ≠ 0 by omega)
    show (if (0 : Int) < (n : Int) then ov (.int (z % (n : Int))) else none) = _
    rw [if_pos (by omega), Int.toNat_of_nonneg h1]
    rfl
theorem divN {z : Int} {n : Nat} (h : 0 < n) (h2 : n < 2 ^ 200) : fdivF (.int z) (.int (n : Nat)) = some (.val (.int (z / (n : Int)))) := by
  have l2 : ((n : Nat) : Int).natAbs.log2 < 200 := by
    rw [Int.natAbs_natCast]
    exact (Nat.log2_lt (by omega)).mpr h2
  show (if (decide ((0 : Int) < (n : Int)) && decide (((n : Nat) : Int).natAbs.log2 < 9000)) = true then ov (.int (z / (n : Int))) else none) = _
  rw [if_pos (by rw [decide_eq_true (by omega), decide_eq_true (by omega)]; rfl)]
  rfl
theorem nx {s : DP.S} {Γ Γ1 Γ2 : Env} (h : s Γ = .next Γ1) (he : Γ1 = Γ2) : s Γ = .next Γ2 := by rw [h, he]
structure Stt (L : Str) (ss : List Sk) (ks : List Bool) (gr : List Int) : Prop where
  vf : VF L [] ss ks
  ln : gr.length = ks.length
  gb : ∀ g ∈ gr, 0 ≤ g ∧ g ≤ 8
  ne : 0 < ks.length
theorem KB_app (ks : List Bool) (k : Bool) (h : ks.length < 1000000) : appendM (KB ks) [.str (kS k)] = some (.non, KB (ks ++ [k])) := by
  rw [KB_snoc]
  exact apN (by rw [List.length_map]; exact h) _
section
variable {L : Str} {ss : List Sk} {ks : List Bool} {gr : List Int} {z left sz : Int} {x1 x2 x4 x11 x12 x13 x14 x15 x16 : Slot}
theorem p_step (St : Stt L ss ks gr) (hl : ks.length ≤ 20) (h1 : 1 ≤ sz) (h3 : sz ≤ 3) :
    ∃ s k g z' left' y12 y13 y14 y15 y16, Stt L (ss ++ [s]) (ks ++ [k]) (gr ++ [g]) ∧
      pBody [.sh (.int z), x1, x2, .sh (.int 8), x4, .sh (.int sz), .ow (.lst (ss.map lawD)), .no, .ow (KB ks), .ow (.lst (gr.map D.int)), .sh (.int left), x11, x12, x13, x14, x15, x16]
        = .next [.sh (.int z'), x1, x2, .sh (.int 8), x4, .sh (.int sz), .ow (.lst (ss.map lawD ++ [lawD s])), .no, .ow (KB (ks ++ [k])), .ow (.lst (gr.map D.int ++ [.int g])), .sh (.int left'), x11, y12, y13, y14, y15, y16] := by
  have hsl := St.vf.len
  have hsl : ks.length = 0 + ss.length := hsl
  have hne := St.ne
  have hgl := St.ln
  obtain ⟨p, hp, hm⟩ := modN (z := z) (n := 12) (by decide)
  have hm : modF (.int z) (.int 12) = some (.val (.int (p : Nat))) := hm
  have hd : fdivF (.int z) (.int 12) = some (.val (.int (z / 12))) := divN (n := 12) (by decide) (by decide)
  have hN : lenF [.lst (ss.map lawD)] = some (.val (.int (ks.length : Nat))) := by
    rw [lenN, List.length_map, hsl, Nat.zero_add]
  obtain ⟨i, hi, hm2⟩ := modN (z := z / 12) hne
  have hd2 := divN (z := z / 12) hne (Nat.lt_of_le_of_lt hl (by decide))
  obtain ⟨j, hj, hm3⟩ := modN (z := z / 12 / (ks.length : Int)) hne
  have hd3 := divN (z := z / 12 / (ks.length : Int)) hne (Nat.lt_of_le_of_lt hl (by decide))
  have hd5 : fdivF (.int z) (.int 5) = some (.val (.int (z / 5))) := divN (n := 5) (by decide) (by decide)
  obtain ⟨q, hq, hm7⟩ := modN (z := z / 5) (n := 7) (by decide)
  have hm7 : modF (.int (z / 5)) (.int 7) = some (.val (.int (q : Nat))) := hm7
  have hI : ∀ a : Int, intF [.int a] = some (.val (.int a)) := fun _ => rfl
  have hI1 := hI z
  have hI2 := hI (z / 12)
  have hI3 := hI (z / 12 / (ks.length : Int))
  have hI4 := hI (z / 5)
  have hsub : subF (.int (q : Nat)) (.int 3) = some (.val (.int ((q : Nat) - 3))) := rfl
  obtain ⟨s, k, g, he, hfr, hix, hkd, g0, g8, hinv⟩ := law_step_ok (L := L) (f := (q : Int) - 3) hp hi hj hgl St.gb h1 h3 (by omega) (by omega)
  have hnm := noMut_law s (kS k) g
  obtain ⟨w, hw, hcase⟩ := law_word s
  have h00 := t0 (lawD s) [.str (kS k), .int g]
  have h01 := t1 (lawD s) (.str (kS k)) [.int g]
  have h02 := t2 (lawD s) (.str (kS k)) (.int g) []
  have hA1 := apN (xs := ss.map lawD) (by rw [List.length_map]; omega) (lawD s)
  have hA2 := KB_app ks k (by omega)
  have hA3 := apN (xs := gr.map D.int) (by rw [List.length_map]; omega) (.int g)
  have mk : ∀ {s : Sk} {k : Bool} {g : Int}, s.fr L → s.idx ks.length → kindOf ks s = some k → 0 ≤ g → g ≤ 8 → Stt L (ss ++ [s]) (ks ++ [k]) (gr ++ [g]) := fun {s k g} a b c d e =>
    ⟨St.vf.snoc a b c, by rw [List.length_append, List.length_append, hgl]; rfl, fun x hx => by
      rcases List.mem_append.mp
          hx with hx | hx
      · exact St.gb x hx
      · rw [List.mem_singleton.mp hx]; exact ⟨d, e⟩, by rw [List.length_append]; omega⟩
  rcases hcase with ⟨hq, i', rfl⟩ | hq
  · obtain ⟨rfl, hki⟩ := hinv i' rfl
    have GI := ix_gr (gr := gr) (i := i') (by omega)
    by_cases h0 : left = 0
    · subst h0
      have hmx : max2F [.int (0 - 1), .int 0] = some (.val (.int 0)) := rfl
      have hsb : subF (.int 0) (.int 1) = some (.val (.int (0 - 1))) := rfl
      have h00' := t0 (.tup [.str "transpose", .int (i' : Nat)]) [.str "matrix", .int (gr.getD i' 0)]
      have h01' := t1 (.tup [.str "transpose", .int (i' : Nat)]) (.str "matrix") [.int (gr.getD i' 0)]
      have h02' := t2 (.tup [.str "transpose", .int (i' : Nat)]) (.str "matrix") (.int (gr.getD i' 0)) []
      have hA1' := apN (xs := ss.map lawD) (by rw [List.length_map]; omega) (.tup [.str "transpose", .int (i' : Nat)])
      have hA2' : appendM (KB ks) [.str "matrix"] = some (.non, KB (ks ++ [true])) := KB_app ks true (by omega)
      have hA3' := apN (xs := gr.map D.int) (by rw [List.length_map]; omega) (.int (gr.getD i' 0))
      have b := getD_of St.gb (i := i') (by omega)
      refine ⟨.transpose i', true, gr.getD i' 0, z / 12 / (ks.length : Int) / (ks.length : Int), 0, .sh (.int (p : Nat)), .sh (.int (i' : Nat)), .sh (.int (j : Nat)), .sh (.int ((q : Int) - 3)), .sh (.tup [lawD (.transpose i'), .str (kS true), .int (gr.getD i' 0)]), mk trivial hix (by show (if atB ks i' = true then some true else none) = some true; rw [hki]; rfl) b.1 b.2, ?_⟩
      apply nx
      · unfold pBody
        array_get_dec
      · rfl
    · have hmx : max2F [.int (left - 1), .int 0] = some (.val (.int (if 0 > left - 1 then 0 else left - 1))) := rfl
      have hsb : subF (.int left) (.int 1) = some (.val (.int (left - 1))) := rfl
      refine ⟨.inverse i', k, g, z / 12 / (ks.length : Int) / (ks.length : Int), (if 0 > left - 1 then 0 else left - 1), .sh (.int (p : Nat)), .sh (.int (i' : Nat)), .sh (.int (j : Nat)), .sh (.int ((q : Int) - 3)), .sh (.tup [lawD (.inverse i'), .str (kS k), .int g]), mk hfr hix hkd g0 g8, ?_⟩
      apply nx
      · unfold pBody
        array_get_dec
      · rfl
  · refine ⟨s, k, g, z / 12 / (ks.length : Int) / (ks.length : Int), left, .sh (.int (p : Nat)), .sh (.int (i : Nat)), .sh (.int (j : Nat)), .sh (.int ((q : Int) - 3)), .sh (.tup [lawD s, .str (kS k), .int g]), mk hfr hix hkd g0 g8, ?_⟩
    apply nx
    · unfold pBody
      array_get_dec
    · rfl
end

/-! M27q: _law_steps, _law_letters. -/
theorem x_tupG {t : As} {Γ Γ1 : Env} {os : List Opd} {ds : List D} (ht : t Γ = .ok os Γ1) (hg : gets Γ1 os = some ds) (hl : ds.length ≤ 1000000) : eTupG t Γ = .ok (.val (.tup ds)) (giveAll Γ1 os) := by
  unfold eTupG
  rw [ht]
  show (match gets Γ1 os with
    | some ds => if ds.length ≤ 1000000 then R.ok (Opd.val (.tup ds)) (giveAll Γ1 os) else .stuck
    | none => .stuck) = _
  rw [hg]
  dsimp only
  rw [if_pos hl]
theorem filter_all {α : Type} : ∀ xs : List α, xs.filter (fun _ => true) = xs
  | [] => rfl
  | x :: r => by rw [List.filter_cons_of_pos rfl, filter_all r]
theorem VF_letters {L : Str} : ∀ (ls : List Str) (ks : List Bool), (∀ c ∈ ls, LetOk L c) → VF L ks (ls.map Sk.letter) (ks ++ ls.map fun _ => true)
  | [], ks, _ => by
    show ks ++ [] = ks
    rw [List.append_nil]
  | c :: r, ks, h => by
    refine ⟨h c List.mem_cons_self, trivial, true, rfl, ?_⟩
    have h5 := VF_letters r (ks ++ [true]) fun z hz => h z (List.mem_cons_of_mem _ hz)
    rw [List.append_assoc] at h5
    exact h5
section
variable {L : Str} {z sz : Int} {x1 x2 x4 : Slot}
theorem p_loop (h1 : 1 ≤ sz) (h3 : sz ≤ 3) : ∀ (xs : List D) {ss : List Sk} {ks : List Bool} {gr : List Int} (z left : Int) (x11 x12 x13 x14 x15 x16 : Slot), Stt L ss ks gr → ks.length + xs.length ≤ 20 →
    ∃ ss' ks' gr' z' left' y11 y12 y13 y14 y15 y16, Stt L ss' ks' gr' ∧ ks'.length = ks.length + xs.length ∧
      forLoop (gN 11) pBody xs [.sh (.int z), x1, x2, .sh (.int 8), x4, .sh (.int sz), .ow (.lst (ss.map lawD)), .no, .ow (KB ks), .ow (.lst (gr.map D.int)), .sh (.int left), x11, x12, x13, x14, x15, x16]
        = .next [.sh (.int z'), x1, x2, .sh (.int 8), x4, .sh (.int sz), .ow (.lst (ss'.map lawD)), .no, .ow (KB ks'), .ow (.lst (gr'.map D.int)), .sh (.int left'), y11, y12, y13, y14, y15, y16]
  | [], ss, ks, gr, z, left, x11, x12, x13, x14, x15, x16, St, _ => ⟨ss, ks, gr, z, left, x11, x12, x13, x14, x15, x16, St, rfl, rfl⟩
  | d :: r, ss, ks, gr, z, left, x11, x12, x13, x14, x15, x16, St, hl => by
    have hl : ks.length + (r.length + 1) ≤ 20 := hl
    obtain ⟨s, k, g, z1, left1, y12, y13, y14, y15, y16, St1, h⟩ := p_step (z := z) (left := left) (x1 := x1) (x2 := x2) (x4 := x4) (x11 := .sh d) (x12 := x12) (x13 := x13) (x14 := x14) (x15 := x15) (x16 := x16) St (by omega) h1 h3
    obtain ⟨ss', ks', gr', z', left', q11, q12, q13, q14, q15, q16, St2, hlen, h2⟩ := p_loop h1 h3 r z1 left1 (.sh d) y12 y13 y14 y15 y16 St1 (by rw [List.length_append]; show ks.length + 1 + r.length ≤ 20; omega)
    refine ⟨ss', ks', gr', z', left', q11, q12, q13, q14, q15, q16, St2, ?_, ?_⟩
    · rw [hlen, List.length_append]
      show ks.length + 1 + r.length = ks.length + (r.length + 1)
      omega
    · rw [List.map_append, List.map_append] at h2
      exact f_next rfl h h2
theorem lc_const {Γ : Env} {ls : List Str} {e : E} {pf : Str → D} (hi : Γ[1]? = some (.sh (.lst (ls.map D.str)))) (hl : ls.length ≤ 100) (he : ∀ c ∈ ls, ∃ o, e ((Γ.set 7 .no).set 7 (.sh (.str c))) = .ok o ((Γ.set 7 .no).set 7 (.sh (.str c))) ∧ o.str = some (pf c)) :
    eLc [7] (iE (eV 1)) (gN 7) tYes e Γ = .ok (.fresh (.lst (ls.map pf))) (Γ.set 7 .no) := by
  have h := elc_pure (i := 1) (j := 7) (c := tYes) (e := e) (Γ := Γ) (xs := ls.map D.str) (fun _ => true) (fun d => match d with | .str c => pf c | d => d) hi (by rw [List.length_map]; omega) (fun d hd => rfl) (fun d hd _ => by
    obtain ⟨c, hc, rfl⟩ := List.mem_map.mp hd
    exact he c hc)
  rw [h, filter_all, List.map_map]
  rfl
theorem steps_ok {ls : List Str} {many : Nat} (hls : ∀ c ∈ ls, LetOk L c) (hl : ls.length ≤ 4) (hm : many ≤ 10) (h1 : 1 ≤ sz) (h3 : sz ≤ 3) :
    ∃ ss ks, m__law_steps [.int z, .lst (ls.map D.str), .int (many : Nat), .int 8, .int 3, .int sz] = .ok (.tup [.lst (ss.map lawD), KB ks]) ∧ VF L [] ss ks ∧ 0 < ks.length ∧ ks.length ≤ 14 := by
  have fin : ∀ {ss : List Sk} {ks : List Bool} {gr : List Int}, Stt L ss ks gr → ks.length ≤ 4 → ∃ ss' ks', VF L [] ss' ks' ∧ 0 < ks'.length ∧ ks'.length ≤ 14 ∧
      (sSeq (DP.sSet 10 (DP.eV 4)) (sSeq (DP.sFor (DP.iR1 (DP.eV 2)) (DP.gN 11) pBody) (DP.sRet (DP.eTupG (DP.aCons (DP.eV 6) (DP.aCons (DP.eV 8) DP.aNil)))))) [.sh (.int z), .sh (.lst (ls.map D.str)), .sh (.int (many : Nat)), .sh (.int 8), .sh (.int 3), .sh (.int sz), .ow (.lst (ss.map lawD)), .no, .ow (KB ks), .ow (.lst (gr.map D.int)), .no, .no, .no, .no, .no, .no, .no] = .ret (.tup [.lst (ss'.map lawD), KB ks']) := fun {ss ks gr} St hk => by
    obtain ⟨ss', ks', gr', z', left', q11, q12, q13, q14, q15, q16, St2, hlen, h2⟩ := p_loop (x1 := .sh (.lst (ls.map D.str))) (x2 := .sh (.int (many : Nat))) (x4 := .sh (.int 3)) h1 h3 (zInts 0 many) z 3 .no .no .no .no .no .no St (by rw [zInts_len]; omega)
    rw [zInts_len] at hlen
    refine ⟨ss', ks', St2.vf, St2.ne, by omega, ?_⟩
    refine x_seq (x_setv (x_sh rfl)) ?_
    refine x_seq (x_for (x_iR1 (x_sh rfl) (by unfold inLine; rw [decide_eq_true (by omega), decide_eq_true (by omega)]; rfl)) h2) ?_
    exact x_ret (x_tupG (x_cons (x_ow rfl) (x_cons (x_ow rfl) x_nil)) rfl (Nat.le_of_ble_eq_true rfl)) rfl
  have run : ∀ {r : D}, d__law_steps [.sh (.int z), .sh (.lst (ls.map D.str)), .sh (.int (many : Nat)), .sh (.int 8), .sh (.int 3), .sh (.int sz), .no, .no, .no, .no, .no, .no, .no, .no, .no, .no, .no] = .ret r → m__law_steps [.int z, .lst (ls.map D.str), .int (many : Nat), .int 8, .int 3, .int sz] = .ok r := fun h => run_ret rfl h
  have g1 := lc_const (Γ := [.sh (.int z), .sh (.lst (ls.map D.str)), .sh (.int (many : Nat)), .sh (.int 8), .sh (.int 3), .sh (.int sz), .no, .no, .no, .no, .no, .no, .no, .no, .no, .no, .no]) (e := (DP.eTup (DP.aCons (DP.eC (.str "letter")) (DP.aCons (DP.eV 7) DP.aNil)))) (pf := fun c => lawD (.letter c)) rfl (by omega) fun c _ => ⟨_, x_tup (x_cons x_eC (x_cons (x_sh rfl) x_nil)) rfl (Nat.le_of_ble_eq_true rfl), rfl⟩
  have g2 := lc_const (Γ := [.sh (.int z), .sh (.lst (ls.map D.str)), .sh (.int (many : Nat)), .sh (.int 8), .sh (.int 3), .sh (.int sz), .ow (.lst (ls.map fun c => lawD (.letter c))), .no, .no, .no, .no, .no, .no, .no, .no, .no, .no]) (e := DP.eC (.str "matrix")) (pf := fun c => D.str (kS true)) rfl (by omega) fun c _ => ⟨_, x_eC, rfl⟩
  have g3 := lc_const (Γ := [.sh (.int z), .sh (.lst (ls.map D.str)), .sh (.int (many : Nat)), .sh (.int 8), .sh (.int 3), .sh (.int sz), .ow (.lst (ls.map fun c => lawD (.letter c))), .no, .ow (.lst (ls.map fun c => D.str (kS true))), .no, .no, .no, .no, .no, .no, .no, .no]) (e := DP.eC (.int 1)) (pf := fun c => D.int 1) rfl (by omega) fun c _ => ⟨_, x_eC, rfl⟩
  have hN : lenF [.lst (ls.map fun c => lawD (.letter c))] = some (.val (.int (ls.length : Nat))) := by rw [lenN, List.length_map]
  by_cases h0 : ls.length = 0
  · have hz : ls = [] := List.length_eq_zero_iff.mp h0
    obtain ⟨ss', ks', hv, hp, hq, hr⟩ := fin (ss := [.one]) (ks := [true]) (gr := [0]) ⟨⟨trivial, trivial, true, rfl, rfl⟩, rfl, fun g hg => by rw [List.mem_singleton.mp hg]; decide, by decide⟩ (by decide)
    refine ⟨ss', ks', run ?_, hv, hp, hq⟩
    unfold d__law_steps
    unfold pBody at hr
    refine x_seq (x_setf g1) ?_
    refine x_seq (x_setf g2) ?_
    refine x_seq (x_setf g3) ?_
    subst hz
    refine x_seq (x_sIfT (x_tE (x_bin (x_cb (x_cons (x_ow rfl) x_nil) rfl hN) x_eC rfl rfl (x_eqi rfl))) ?_) hr
    refine x_seq (x_drop (x_mut rfl (x_cons (x_tup (x_cons x_eC x_nil) rfl (by decide)) x_nil) rfl rfl (ap0 _))) ?_
    refine x_seq (x_drop (x_mut rfl (x_cons x_eC x_nil) rfl rfl (ap0 _))) ?_
    exact x_drop (x_mut rfl (x_cons x_eC x_nil) rfl rfl (ap0 _))
  · have St0 : Stt L (ls.map Sk.letter) (ls.map fun _ => true) (ls.map fun _ => 1) := ⟨VF_letters ls [] hls, by rw [List.length_map, List.length_map], fun g hg => by
      obtain ⟨_, _, rfl⟩ := List.mem_map.mp hg
      decide, by rw [List.length_map]; omega⟩
    obtain ⟨ss', ks', hv, hp, hq, hr⟩ := fin St0 (by rw [List.length_map]; omega)
    refine ⟨ss', ks', run ?_, hv, hp, hq⟩
    unfold d__law_steps
    unfold pBody at hr
    refine x_seq (x_setf g1) ?_
    refine x_seq (x_setf g2) ?_
    refine x_seq (x_setf g3) ?_
    have e1 : (ls.map Sk.letter).map lawD = ls.map fun c => lawD (.letter c) := by rw [List.map_map]; rfl
    have e2 : KB (ls.map fun _ => true) = .lst (ls.map fun c => D.str (kS true)) := by unfold KB; rw [List.map_map]; rfl
    have e3 : (ls.map fun _ => (1 : Int)).map D.int = ls.map fun c => D.int 1 := by rw [List.map_map]; rfl
    rw [e1, e2, e3] at hr
    refine x_seq (x_sIfF (x_tE (x_bin (x_cb (x_cons (x_ow rfl) x_nil) rfl hN) x_eC rfl rfl (x_eqi (decide_eq_false (by omega))))) rfl) hr
/-! letters -/
def chrIs (o : Option Opd) (s : Str) : Bool := match o with
  | some (.val (.str c)) => decide (c = s)
  | _ => false
theorem chrIs_is {o : Option Opd} {s : Str} (h : chrIs o s = true) : o = some (.val (.str s)) := by
  unfold chrIs at h
  split at h
  · rw [of_decide_eq_true h]
  · cases h
theorem alph : ∀ i < 26, chrIs (ixTF (.str "abcdefghijklmnopqrstuvwxyz") (.int (i : Nat))) (chr1 i) = true := by decide +kernel
def stL : List D := [.int 1, .int 3, .int 5, .int 7, .int 9, .int 11, .int 15, .int 17, .int 19, .int 21, .int 23, .int 25]
def isI (o : Option Opd) (s : Nat) : Bool := match o with
  | some (.val (.int c)) => decide (c = (s : Int))
  | _ => false
theorem isI_is {o : Option Opd} {s : Nat} (h : isI o s = true) : o = some (.val (.int (s : Nat))) := by
  unfold isI at h
  split at h
  · rw [of_decide_eq_true h]
  · cases h
theorem steps_at : ∀ j < 12, isI (ixF (.lst stL) (.int (j : Nat))) (stepsL.getD j 1) = true := by decide +kernel
theorem steps_small : ∀ j < 12, stepsL.getD j 1 ≤ 25 := by decide +kernel
theorem range_small : ∀ m < 5, zInts 0 m = (List.range m).map fun k => D.int (k : Nat) := by
  intro m hm
  have : m = 0 ∨ m = 1 ∨ m = 2 ∨ m = 3 ∨ m = 4 := by omega
  rcases this with rfl | rfl | rfl | rfl | rfl <;> rfl
theorem letters_ok {m : Nat} (hm : m < 5) : ∃ a j, a < 26 ∧ j < 12 ∧ m__law_letters [.int z, .int (m : Nat)] = .ok (.lst ((ltrs a j m).map D.str)) := by
  obtain ⟨a, ha, hm1⟩ := modN (z := z) (n := 26) (by decide)
  obtain ⟨j, hj, hm2⟩ := modN (z := z / 26) (n := 12) (by decide)
  have hm1 : modF (.int z) (.int 26) = some (.val (.int (a : Nat))) := hm1
  have hm2 : modF (.int (z / 26)) (.int 12) = some (.val (.int (j : Nat))) := hm2
  have hd : fdivF (.int z) (.int 26) = some (.val (.int (z / 26))) := divN (n := 26) (by decide) (by decide)
  have hst := isI_is (steps_at j hj)
  have hsm := steps_small j hj
  refine ⟨a, j, ha, hj, run_ret rfl ?_⟩
  show d__law_letters [.sh (.int z), .sh (.int (m : Nat)), .no, .no, .no, .no] = _
  unfold d__law_letters
  refine x_seq (x_setv x_eC) ?_
  refine x_seq (x_setv (x_bin (x_cb (x_cons (x_sh rfl) x_nil) rfl rfl) x_eC rfl rfl hm1)) ?_
  refine x_seq (Γ1 := [.sh (.int z), .sh (.int (m : Nat)), .sh (.str "abcdefghijklmnopqrstuvwxyz"), .sh (.int (a : Nat)), .sh (.int (stepsL.getD j 1 : Nat)), .no]) (x_setv (x_bin (x_lst (ds := stL) (x_cons x_eC (x_cons x_eC (x_cons x_eC (x_cons x_eC (x_cons x_eC (x_cons x_eC (x_cons x_eC (x_cons x_eC (x_cons x_eC (x_cons x_eC (x_cons x_eC (x_cons x_eC x_nil)))))))))))) rfl (by decide)) (x_bin (x_cb (x_cons (x_bin (x_sh rfl) x_eC rfl rfl hd) x_nil) rfl rfl) x_eC rfl rfl hm2) rfl rfl hst)) ?_
  have key : eLc [5] (DP.iR1 (DP.eV 1)) (DP.gN 5) DP.tYes (DP.eBin DP.ixTF (DP.eV 2) (DP.eBin DP.modF (DP.eCB DP.intF (DP.aCons (DP.eBin DP.addF (DP.eV 3) (DP.eBin DP.mulF (DP.eV 4) (DP.eV 5))) DP.aNil)) (DP.eC (.int 26)))) [.sh (.int z), .sh (.int (m : Nat)), .sh (.str "abcdefghijklmnopqrstuvwxyz"), .sh (.int (a : Nat)), .sh (.int (stepsL.getD j 1 : Nat)), .no] = .ok (.fresh (.lst ((ltrs a j m).map D.str))) [.sh (.int z), .sh (.int (m : Nat)), .sh (.str "abcdefghijklmnopqrstuvwxyz"), .sh (.int (a : Nat)), .sh (.int (stepsL.getD j 1 : Nat)), .no] := by
    refine x_lc (x_iR1 (x_sh rfl) (by unfold inLine; rw [decide_eq_true (by omega), decide_eq_true (by omega)]; rfl)) ?_
    have hp := lc_pure (j := 5) (c := tYes) (e := (DP.eBin DP.ixTF (DP.eV 2) (DP.eBin DP.modF (DP.eCB DP.intF (DP.aCons (DP.eBin DP.addF (DP.eV 3) (DP.eBin DP.mulF (DP.eV 4) (DP.eV 5))) DP.aNil)) (DP.eC (.int 26))))) (Γ := [.sh (.int z), .sh (.int (m : Nat)), .sh (.str "abcdefghijklmnopqrstuvwxyz"), .sh (.int (a : Nat)), .sh (.int (stepsL.getD j 1 : Nat)), .no]) (fun _ => true) (fun d => match d with | .int k => .str (chr1 ((a + stepsL.getD j 1 * k.toNat) % 26)) | d => d) rfl ((List.range m).map fun k => D.int (k : Nat)) [] (fun d _ => rfl) (fun d hd _ => by
      obtain ⟨k, hk, rfl⟩ := List.mem_map.mp hd
      have hk := List.mem_range.mp hk
      have hmul : mulF (.int (stepsL.getD j 1 : Nat)) (.int (k : Nat)) = some (.val (.int ((stepsL.getD j 1 * k : Nat) : Int))) := by
        rw [mul_small (by rw [Int.natAbs_natCast]; exact Nat.lt_of_le_of_lt hsm (by decide)) (by rw [Int.natAbs_natCast]; exact Nat.lt_trans (Nat.lt_trans hk hm) (by decide))]
        rw [Int.natCast_mul]
      have hadd : addF (.int (a : Nat)) (.int ((stepsL.getD j 1 * k : Nat) : Int)) = some (.val (.int ((a + stepsL.getD j 1 * k : Nat) : Int))) := by
        show ov (.int ((a : Int) + ((stepsL.getD j 1 * k : Nat) : Int))) = _
        rw [← Int.natCast_add]
        rfl
      have hmod : modF (.int ((a + stepsL.getD j 1 * k : Nat) : Int)) (.int 26) = some (.val (.int (((a + stepsL.getD j 1 * k) % 26 : Nat) : Int))) := by
        show (if (0 : Int) < 26 then ov (.int (((a + stepsL.getD j 1 * k : Nat) : Int) % 26)) else none) = _
        rw [if_pos (by decide)]
        rfl
      have hix := chrIs_is (alph ((a + stepsL.getD j 1 * k) % 26) (Nat.mod_lt _ (by decide)))
      refine ⟨_, x_bin (x_sh rfl) (x_bin (x_cb (x_cons (x_bin (x_sh rfl) (x_bin (x_sh rfl) (x_sh rfl) rfl rfl hmul) rfl rfl hadd) x_nil) rfl rfl) x_eC rfl rfl hmod) rfl rfl hix, rfl⟩) (by rw [List.length_map, List.length_range]; show 0 + m ≤ 1000000; omega)
    rw [filter_all, List.nil_append, List.map_map] at hp
    rw [Int.toNat_natCast, range_small m hm]
    refine Eq.trans hp ?_
    unfold ltrs
    rw [List.map_map]
    rfl
  exact x_ret key rfl
theorem chk_ok {a j m : Nat} (ha : a < 26) (hj : j < 12) (hm : m < 5) : ∃ L : Str, joinF "" (.lst ((ltrs a j m).map D.str)) = some (.val (.str L)) ∧ m__read_letters [.str (headS L)] = .ok (.str L) ∧ LettersOk L ∧ (∀ c ∈ ltrs a j m, LetOk L c) ∧ inTF (.str "A") (.str L) = some (.val (.bl false)) ∧ (L.length = 0 ↔ (ltrs a j m).length = 0) := by
  have h := chk_all a ha j hj m hm
  unfold chk chkA at h
  simp only [Bool.and_eq_true, decide_eq_true_eq, Bool.not_eq_true', List.all_eq_true] at h
  obtain ⟨⟨⟨⟨⟨⟨⟨h1, h2⟩, h3⟩,
      h4⟩, h5⟩, h6⟩, h7⟩, h8⟩ := h
  have nc : ∀ {l : List Nat} {x : Nat}, l.contains x = false → x ∉ l := fun {l x} h hm => by
    rw [List.contains_iff_mem.mpr hm] at h
    cases h
  have hlet : ∀ c ∈ ltrs a j m, LetOk (Txt.join "" (ltrs a j m)) c := fun c hc => by
    have h := h8 c hc
    unfold chkL at h
    simp only [Bool.and_eq_true, decide_eq_true_eq, Bool.not_eq_true'] at h
    obtain ⟨⟨⟨⟨⟨g1, g2⟩, g3⟩, g4⟩, g5⟩, g6⟩ := h
    exact ⟨isVI_is g1, isVB_is g2, g3, nc g4, nc g5, g6⟩
  refine ⟨Txt.join "" (ltrs a j m), joinF_strs (joinOk_le (fun y hy => Nat.le_trans (hlet y hy).ln (by decide)) (by unfold ltrs; rw [List.length_map, List.length_range]; omega) (by decide +kernel)), read_of h1 h2 (nc h3), ⟨h2, nc h3, nc h4, h5⟩, hlet, isVB_is h6, ?_⟩
  have h7 := eq_of_beq h7
  constructor
  · intro h
    rw [h] at h7
    exact eq_of_beq h7.symm
  · intro h
    rw [h] at h7
    exact eq_of_beq h7
end

/-! M27r: _law_number; equal recipes; plain ones. -/
/-! numbers -/
theorem cell_ok (ns : List Int) (k : Nat) (hk : k ≤ 3) (hn : ns.length ≤ 63) : ∃ z : Int, m__law_cell [.scr (ns.map D.int), .int (k : Nat)] = .ok (.int z) := by
  have hN : lenF [.scr (ns.map D.int)] = some (.val (.int (ns.length : Nat))) := by
    show ov (.int ((ns.map D.int).length : Nat)) = _
    rw [List.length_map]
    rfl
  have run : ∀ {r : D}, d__law_cell [.sh (.scr (ns.map D.int)), .sh (.int (k : Nat))] = .ret r → m__law_cell [.scr (ns.map D.int), .int (k : Nat)] = .ok r := fun h => run_ret rfl h
  by_cases h : k < ns.length
  · refine ⟨ns[k], run ?_⟩
    have hx : ixF (.scr (ns.map D.int)) (.int (k : Nat)) = some (.val (.int ns[k])) := by
      show (ixD (ns.map D.int) (k : Nat)).map Opd.val = _
      unfold ixD
      rw [if_pos (by omega), if_pos (by rw [List.length_map]; omega), Int.toNat_natCast, List.getElem?_map, List.getElem?_eq_getElem h]
      rfl
    have hlt := x_lt (i := (k : Nat)) (j := (ns.length : Nat)) (decide_eq_true (by omega))
    unfold d__law_cell
    array_get_dec
  · refine ⟨17 * (k : Nat) + 3 * (ns.length : Nat) + 1, run ?_⟩
    have hlt := x_lt (i := (k : Nat)) (j := (ns.length : Nat)) (decide_eq_false (by omega))
    have m1 := mul_small (i := 17) (j := (k : Nat)) (by decide) (by omega)
    have m2 := mul_small (i := 3) (j := (ns.length : Nat)) (by decide) (by omega)
    have a1 : addF (.int (17 * (k : Nat))) (.int (3 * (ns.length : Nat))) = some (.val (.int (17 * (k : Nat) + 3 * (ns.length : Nat)))) := rfl
    have a2 : addF (.int (17 * (k : Nat) + 3 * (ns.length : Nat))) (.int 1) = some (.val (.int (17 * (k : Nat) + 3 * (ns.length : Nat) + 1))) := rfl
    unfold d__law_cell
    array_get_dec
theorem modI {i j : Int} (h : 0 < j) : modF (.int i) (.int j) = some (.val (.int (i % j))) := by
  show (if 0 < j then ov (.int (i % j)) else none) = _
  rw [if_pos h]
  rfl
theorem addI (i j : Int) : addF (.int i) (.int j) = some (.val (.int (i + j))) := rfl
theorem intI (i : Int) : intF [.int i] = some (.val (.int i)) := rfl
theorem number_ok (ns : List Int) (k : Nat) (hk : k ≤ 3) (hn : ns.length ≤ 63) : ∃ z : Int, m__law_number [.scr (ns.map D.int), .int (k : Nat)] = .ok (.int z) := by
  obtain ⟨z0, h0⟩ := cell_ok ns k hk hn
  have ha : absF [.int z0] = some (.val (.int (if z0 < 0 then -z0 else z0))) := rfl
  generalize (if z0 < 0 then -z0 else z0) = y at ha
  have p36 : powF (.int 10) (.int 36) = some (.val (.int (10 ^ 36))) := by kernel_rfl
  have p9 : powF (.int 10) (.int 9) = some (.val (.int (10 ^ 9))) := by kernel_rfl
  have run : ∀ {r : D}, d__law_number [.sh (.scr (ns.map D.int)), .sh (.int (k : Nat)), .no] = .ret r → m__law_number [.scr (ns.map D.int), .int (k : Nat)] = .ok r := fun h => run_ret rfl h
  have i1 := intI y
  have mo := modI (i := y) (j := 10 ^ 36) (by decide)
  have b0 := Int.emod_nonneg y (show (10 ^ 36 : Int) ≠ 0 by decide)
  generalize y % 10 ^ 36 = u at mo b0
  by_cases hu : u < 10 ^ 9
  · have hlt := x_lt (i := u) (j := 10 ^ 9) (decide_eq_true hu)
    have a1 := addI u 5
    have a2 := addI u 48271
    have m1 := mul_small (i := u + 5) (j := u + 48271) (by omega) (by omega)
    have m2 := mul_small (i := 69621) (j := (k : Nat)) (by decide) (by omega)
    have a3 := addI ((u + 5) * (u + 48271)) (69621 * (k : Nat))
    have bv : ((u + 5) * (u + 48271) + 69621 * (k : Nat)).natAbs < 2 ^ 100 := by
      have e1 : (u + 5).natAbs < 2 ^ 40 := by omega
      have e2 : (u + 48271).natAbs < 2 ^ 40 := by omega
      have e3 : ((u + 5) * (u + 48271)).natAbs < 2 ^ 80 := by
        rw [Int.natAbs_mul]
        exact Nat.lt_of_lt_of_le (Nat.mul_lt_mul'' e1 e2) (by decide)
      generalize (u + 5) * (u + 48271) = q at e3 ⊢
      omega
    generalize (u + 5) * (u + 48271) + 69621 * (k : Nat) = v at a3 bv
    have i2 := intI v
    have mo2 := modI (i := v) (j := 65537) (by decide)
    have c0 := Int.emod_nonneg v (show (65537 : Int) ≠ 0 by decide)
    have c1 := Int.emod_lt_of_pos v (show (0 : Int) < 65537 by decide)
    generalize v % 65537 = w at mo2 c0 c1
    have a4 := addI w 11
    have m3 := mul_small (i := v) (j := w + 11) (by omega) (by omega)
    have d7 : fdivF (.int v) (.int 7) = some (.val (.int (v / 7))) := divN (n := 7) (by decide) (by decide)
    have a5 := addI (v * (w + 11)) (v / 7)
    have bx : (v * (w + 11) + v / 7).natAbs < 2 ^ 130 := by
      have e1 : (w + 11).natAbs < 2 ^ 20 := by omega
      have e3 : (v * (w + 11)).natAbs < 2 ^ 120 := by
        rw [Int.natAbs_mul]
        exact Nat.lt_of_lt_of_le (Nat.mul_lt_mul'' bv e1) (by decide)
      generalize v * (w + 11) = q at e3 ⊢
      omega
    generalize v * (w + 11) + v / 7 = x at a5 bx
    have i3 := intI x
    have mo3 := modI (i := x) (j := 1000003) (by decide)
    have f0 := Int.emod_nonneg x (show (1000003 : Int) ≠ 0 by decide)
    have f1 := Int.emod_lt_of_pos x (show (0 : Int) < 1000003 by decide)
    generalize x % 1000003 = w2 at mo3 f0 f1
    have a6 := addI w2 7
    have m4 := mul_small (i := x) (j := w2 + 7) (by omega) (by omega)
    have i4 := intI (x * (w2 + 7))
    have mo4 := modI (i := x * (w2 + 7)) (j := 10 ^ 36) (by decide)
    exact ⟨_, run (by unfold d__law_number; array_get_dec)⟩
  · have hlt := x_lt (i := u) (j := 10 ^ 9) (decide_eq_false hu)
    exact ⟨_, run (by unfold d__law_number; array_get_dec)⟩
/-! equal -/
theorem okS_mem {s : Str} (h : okS s = true) : ∀ c ∈ s.cps.toList, c < 1114112 := by
  intro c hc
  unfold okS at h
  rw [← Array.all_toList, List.all_eq_true] at h
  exact of_decide_eq_true (h c hc)
theorem okS_of {s : Str} (h : ∀ c ∈ s.cps.toList, c < 1114112) : okS s = true := by
  unfold okS
  rw [← Array.all_toList,
      List.all_eq_true]
  exact fun c hc => decide_eq_true (h c hc)
theorem okS_join {y : Str} {ps : List Str} (hy : okS y = true) (h : ∀ p ∈ ps, okS p = true) : okS (Txt.join y ps) = true := by
  refine okS_of fun c hc => ?_
  rw [tl_tjoin] at hc
  rcases joinL_mem hc with hc | ⟨p, hp, hc⟩
  · exact okS_mem hy c hc
  · obtain ⟨w, hw, rfl⟩ := List.mem_map.mp hp
    exact okS_mem (h w hw) c hc
theorem okS_app {a b : Str} (h1 : okS a = true) (h2 : okS b = true) : okS (a ++ b) = true := by
  refine okS_of fun c hc => ?_
  rw [app_tl, List.mem_append] at hc
  rcases hc with hc | hc
  · exact okS_mem h1 c hc
  · exact okS_mem h2 c hc
theorem okS_text {L : Str} {ss : List Sk} {res n : Nat} (hL : LettersOk L) (hs : ∀ s ∈ ss, s.fr L ∧ s.idx n) (hn : n ≤ 20) (hr : res < 20) : okS (textS L ss res) = true := by
  refine okS_join (by decide +kernel) fun p hp => ?_
  rcases List.mem_cons.mp
      hp with rfl | hp
  · unfold headS
    split
    · decide +kernel
    · exact okS_app (by decide +kernel) hL.ok
  · rcases List.mem_append.mp
      hp with hp | hp
    · obtain ⟨s, hs2, rfl⟩ := List.mem_map.mp hp
      exact okS_join (by decide +kernel) fun w hw => (words_ok (hs s hs2).1 (hs s hs2).2 hn w hw).ok
    · rw [List.mem_singleton.mp
        hp]
      exact okS_app (by decide +kernel) (numS_ok res hr)
theorem eqS_refl {s : Str} (h : okS s = true) : eqF (.str s) (.str s) = some (.val (.bl true)) := x_eqs h h (decide_eq_true rfl)
theorem neS_refl {s : Str} (h : okS s = true) : neF (.str s) (.str s) = some (.val (.bl false)) := x_nes h h (by rw [decide_eq_true rfl]; rfl)
theorem kS_ok (k : Bool) : okS (kS k) = true := by cases k <;> decide +kernel
theorem plains_kb (n : Nat) : ∀ ks : List Bool, plains n (ks.map fun k => .str (kS k)) = true
  | [] => by simp [plains]
  | k :: r => by
    show plains n (D.str (kS k) :: r.map fun k => .str (kS k)) = true
    unfold plains
    rw [plains_kb n r]
    have : plain n (.str (kS k)) = true := by unfold plain; exact kS_ok k
    rw [this]
    rfl
theorem eqDs_kb : ∀ ks : List Bool, eqDs (ks.map fun k => .str (kS k)) (ks.map fun k => .str (kS k)) = true
  | [] => by simp [eqDs]
  | k :: r => by
    show eqDs (D.str (kS k) :: r.map fun k => .str (kS k)) (D.str (kS k) :: r.map fun k => .str (kS k)) = true
    unfold eqDs
    rw [eqDs_kb r]
    simp [eqD]
theorem neK_lst (ks : List Bool) : neF (.lst (ks.map fun k => .str (kS k))) (KB ks) = some (.val (.bl false)) := by
  unfold neF KB
  have h1 : plain 20 (.lst (ks.map fun k => .str (kS k))) = true := by
    show plain (19 + 1) _ = true
    unfold plain
    exact plains_kb 19 ks
  have h2 : eqD (.lst (ks.map fun k => .str (kS k))) (.lst (ks.map fun k => .str (kS k))) = true := by
    unfold eqD
    exact eqDs_kb ks
  rw [h1, h2]
  rfl
theorem neK_tup (ks : List Bool) : neF (.tup (ks.map fun k => .str (kS k))) (.tup (ks.map fun k => .str (kS k))) = some (.val (.bl false)) := by
  unfold neF
  have h1 : plain 20 (.tup (ks.map fun k => .str (kS k))) = true := by
    show plain (19 + 1) _ = true
    unfold plain
    exact plains_kb 19 ks
  have h2 : eqD (.tup (ks.map fun k => .str (kS k))) (.tup (ks.map fun k => .str (kS k))) = true := by
    unfold eqD
    exact eqDs_kb ks
  rw [h1, h2]
  rfl
theorem leaf_str (s : Str) : leafT "Ratio" m_Ratio__eq (.str s) (.str s) = true := by
  unfold leafT
  simp [flat, eqD]
theorem leaf_int (i : Int) : leafT "Ratio" m_Ratio__eq (.int i) (.int i) = true := by
  unfold leafT
  simp [flat, eqD]
theorem leaf_rat {f d n e : Int} {t : Str} (F : FrOk f d n e t) : leafT "Ratio" m_Ratio__eq (ratD n e) (ratD n e) = true := by
  have h : isT (m_Ratio__eq [ratD n e, ratD n e]) = true := by rw [F.eq]; rfl
  show ((flat (ratD n e) && flat (ratD n e) && eqD (ratD n e) (ratD n e)) || (decide (("Ratio" : Str) = "Ratio") && decide (("Ratio" : Str) = "Ratio") && isT (m_Ratio__eq [ratD n e, ratD n e]))) = true
  rw [h, decide_eq_true rfl]
  simp
theorem step_eq {L : Str} {s : Sk} (h : s.fr L) : tupT (leafT "Ratio" m_Ratio__eq) (givD s) (givD s) = true := by
  have one : ∀ w : Str, tupT (leafT "Ratio" m_Ratio__eq) (.tup [.str w]) (.tup [.str w]) = true := fun w => by
    show (leafT "Ratio" m_Ratio__eq (.str w) (.str w) && true) = true
    rw [leaf_str]; rfl
  have two : ∀ (w : Str) (x : D), leafT "Ratio" m_Ratio__eq x x = true → tupT (leafT "Ratio" m_Ratio__eq) (.tup [.str w, x]) (.tup [.str w, x]) = true := fun w x hx => by
    show (leafT "Ratio" m_Ratio__eq (.str w) (.str w) && (leafT "Ratio" m_Ratio__eq x x && true)) = true
    rw [leaf_str, hx]; rfl
  have three : ∀ (w : Str) (x y : D), leafT "Ratio" m_Ratio__eq x x = true → leafT "Ratio" m_Ratio__eq y y = true → tupT (leafT "Ratio" m_Ratio__eq) (.tup [.str w, x, y]) (.tup [.str w, x, y]) = true := fun w x y hx hy => by
    show (leafT "Ratio" m_Ratio__eq (.str w) (.str w) && (leafT "Ratio" m_Ratio__eq x x && (leafT "Ratio" m_Ratio__eq y y && true))) = true
    rw [leaf_str, hx, hy]; rfl
  cases s with
  | letter c => exact two _ _ (leaf_str c)
  | one => exact one _
  | const f n e t => exact two _ _ (leaf_rat h)
  | scale f n e t i => exact three _ _ _ (leaf_rat h) (leaf_int _)
  | power i => exact three _ _ _ (leaf_int _) (leaf_int _)
  | trace i => exact two _ _ (leaf_int _)
  | transpose i => exact two _ _ (leaf_int _)
  | inverse i => exact two _ _ (leaf_int _)
  | det i => exact two _ _ (leaf_int _)
  | sum i j => exact three _ _ _ (leaf_int _) (leaf_int _)
  | diff i j => exact three _ _ _ (leaf_int _) (leaf_int _)
  | times i j => exact three _ _ _ (leaf_int _) (leaf_int _)
theorem steps_eq {L : Str} : ∀ {ss : List Sk}, (∀ s ∈ ss, s.fr L) → allT (tupT (leafT "Ratio" m_Ratio__eq)) (ss.map givD) (ss.map givD) = true
  | [], _ => rfl
  | s :: r, h => by
    show (tupT (leafT "Ratio" m_Ratio__eq) (givD s) (givD s) && allT (tupT (leafT "Ratio" m_Ratio__eq)) (r.map givD) (r.map givD)) = true
    rw [step_eq (h s List.mem_cons_self), steps_eq fun z hz => h z (List.mem_cons_of_mem _ hz)]
    rfl
theorem x_binXO {f fO : D → D → Option Opd} {a b : E} {Γ Γ1 Γ2 : Env} {x y o : Opd} {dx dy : D} (ha : a Γ = .ok x Γ1) (hb : b Γ1 = .ok y Γ2) (hx : x.str = some dx) (hy : y.str = some dy) (hf : fO dx dy = some o) : eBinX f fO a b Γ = .ok o Γ2 := by
  unfold eBinX
  rw [ha]
  show (b Γ1).bind _ = _
  rw [hb]
  show (match x.str, y.str with
  | some dx, some dy => (match fO dx dy with
    | some o => R.ok o Γ2
    | none => opt (f dx dy) Γ2)
  | _, _ => match x.get Γ2, y.get Γ2 with
    | some dx, some dy => opt (f dx dy) Γ2
    | _, _ => .stuck) = _
  rw [hx, hy]
  dsimp only
  rw [hf]
local macro_rules | `(tactic| array_get_dec) => `(tactic| first
  | ((with_reducible apply x_binXO)
     · array_get_dec
     · array_get_dec
     · exact rfl
     · exact rfl
     · with_reducible assumption))
theorem isRec (L : Str) (ss : List Sk) (ks : List Bool) (res : Nat) : isAF (fun _ => none) (only "Recipe" true) (recD L ss ks res) = some (.val (.bl true)) := by
  show (only "Recipe" true "Recipe").map (fun b => Opd.val (.bl b)) = _
  unfold only
  rw [if_pos rfl]
  rfl
theorem recipe_eq {L : Str} {ss : List Sk} {ks : List Bool} {res : Nat} (hL : okS L = true) (hs : ∀ s ∈ ss, s.fr L) : m_Recipe__eq [recD L ss ks res, recD L ss ks res] = .ok (.bl true) := by
  have hA := isRec L ss ks res
  have f1 := fld_let L ss ks res
  have f2 := fld_steps L ss ks res
  have f3 := fld_result L ss ks res
  have e1 := eqS_refl hL
  have e2 : eqXF "Ratio" m_Ratio__eq (.tup (ss.map givD)) (.tup (ss.map givD)) = some (.val (.bl true)) := by
    show (if allT (tupT (leafT "Ratio" m_Ratio__eq)) (ss.map givD) (ss.map givD) = true then ov (.bl true) else none) = _
    rw [if_pos (steps_eq hs)]
    rfl
  have e3 : eqF (.int (res : Nat)) (.int (res : Nat)) = some (.val (.bl true)) := x_eqi (decide_eq_true rfl)
  refine run_ret rfl ?_
  show d_Recipe__eq [.sh (recD L ss ks res), .sh (recD L ss ks res)] = _
  unfold d_Recipe__eq
  array_get_dec
theorem alike_rec {L : Str} {ss : List Sk} {ks : List Bool} {res : Nat} (hL : okS L = true) (hs : ∀ s ∈ ss, s.fr L) : alikeF "Recipe" m_Recipe__eq (recD L ss ks res) (recD L ss ks res) = some (.val (.bl true)) := by
  show (if (decide (("Recipe" : Str) = "Recipe") && decide (("Recipe" : Str) = "Recipe")) = true then (match m_Recipe__eq [recD L ss ks res, recD L ss ks res] with
    | .ok d => some (Opd.val d)
    | _ => none) else none) = _
  rw [decide_eq_true rfl, if_pos (show (true && true) = true from rfl), recipe_eq hL hs]
/-! plain -/
def isNew : Sk → Bool
  | .transpose _ => true
  | .inverse _ => true
  | .det _ => true
  | _ => false
theorem new_giv (s : Sk) : ∃ w, ixF (givD s) (.int 0) = some (.val (.str w)) ∧ inF (.str w) g_NEW_WORDS = some (.val (.bl (isNew s))) := by
  cases s <;> exact ⟨_, t0 _ _, by kernel_rfl⟩
theorem new_law (s : Sk) : ∃ w, ixF (lawD s) (.int 0) = some (.val (.str w)) ∧ inF (.str w) (.lst [.str "transpose", .str "inverse", .str "det"]) = some (.val (.bl (isNew s))) := by
  cases s <;> exact ⟨_, t0 _ _, by kernel_rfl⟩
def newD (d : D) : Bool := match ixF d (.int 0) with
  | some (.val x) => (match inF x g_NEW_WORDS with
    | some (.val (.bl b)) => b
    | _ => false)
  | _ => false
theorem newD_giv (s : Sk) : newD (givD s) = isNew s := by
  obtain ⟨w, h1, h2⟩ := new_giv s
  unfold newD
  rw [h1]
  dsimp only
  rw [h2]
def newE (d : D) : Bool := match ixF d (.int 0) with
  | some (.val x) => (match inF x (.lst [.str "transpose", .str "inverse", .str "det"]) with
    | some (.val (.bl b)) => b
    | _ => false)
  | _ => false
theorem newE_law (s : Sk) : newE (lawD s) = isNew s := by
  obtain ⟨w, h1, h2⟩ := new_law s
  unfold newE
  rw [h1]
  dsimp only
  rw [h2]
theorem bls_map : ∀ ss : List Sk, blsOf ((ss.map givD).map fun d => .bl (newD d)) = some (ss.map isNew)
  | [] => rfl
  | s :: r => by
    show (blsOf ((r.map givD).map fun d => .bl (newD d))).map (newD (givD s) :: ·) = _
    rw [bls_map r, newD_giv]
    rfl
theorem plain_ok {L : Str} {ss : List Sk} {ks : List Bool} {res : Nat} (hl : ss.length ≤ 1000) : m_Recipe__is_plain [recD L ss ks res] = .ok (.bl (!(ss.any isNew))) := by
  have f2 := fld_steps L ss ks res
  have hp := lc_pure (j := 1) (c := tYes) (e := (DP.eBin DP.inF (DP.eBin DP.ixF (DP.eV 1) (DP.eC (.int 0))) (DP.eC g_NEW_WORDS))) (Γ := [.sh (recD L ss ks res), .no]) (fun _ => true) (fun d => .bl (newD d)) rfl (ss.map givD) [] (fun d _ => rfl) (fun d hd _ => by
    obtain ⟨s, _, rfl⟩ := List.mem_map.mp hd
    obtain ⟨w, h1, h2⟩ := new_giv s
    refine ⟨_, x_bin (x_bin (x_sh rfl) x_eC rfl rfl h1) x_eC rfl rfl h2, ?_⟩
    rw [newD_giv]
    rfl) (by rw [List.length_map]; show 0 + ss.length ≤ 1000000; omega)
  rw [filter_all, List.nil_append] at hp
  have e : eLc [1] (DP.iE (DP.eUn (DP.fldF ["Recipe"] "steps") (DP.eV 0))) (DP.gN 1) DP.tYes (DP.eBin DP.inF (DP.eBin DP.ixF (DP.eV 1) (DP.eC (.int 0))) (DP.eC g_NEW_WORDS)) [.sh (recD L ss ks res), .no] = .ok (.fresh (.lst ((ss.map givD).map fun d => .bl (newD d)))) [.sh (recD L ss ks res), .no] := x_lc (x_iE (x_un (x_sh rfl) rfl f2) rfl rfl) hp
  have hany : anyF [.lst ((ss.map givD).map fun d => .bl (newD d))] = some (.val (.bl (ss.any isNew))) := by
    show (match blsOf ((ss.map givD).map fun d => .bl (newD d)) with
    | some bs => ov (.bl (bs.any id))
    | none => none) = _
    rw [bls_map]
    dsimp only
    rw [List.any_map]
    rfl
  refine run_ret rfl ?_
  show d_Recipe__is_plain [.sh (recD L ss ks res), .no] = _
  unfold d_Recipe__is_plain
  exact x_ret (x_not (x_cb (x_cons e x_nil) rfl hany)) rfl
theorem count_new : ∀ ss : List Sk, decide (((((ss.map lawD).filter newE).map id).length : Int) = 0) = !(ss.any isNew)
  | [] => rfl
  | s :: r => by
    rw [List.map_cons, List.any_cons]
    cases h : isNew s with
    | true =>
      rw [List.filter_cons_of_pos (by rw [newE_law, h])]
      rw [decide_eq_false (by rw [List.map_cons, List.length_cons]; omega)]
      rfl
    | false =>
      rw [List.filter_cons_of_neg (by rw [newE_law, h]; exact Bool.false_ne_true)]
      rw [count_new r]
      rfl
theorem neB_refl (b : Bool) : neF (.bl b) (.bl b) = some (.val (.bl false)) := by cases b <;> kernel_rfl

/-! M27s (printed by mks.py): the last part of the law. -/
def tBody : DP.S := (DP.sSeq (DP.sIf (DP.tAnd (DP.tE (DP.eBin DP.eqF (DP.eV 16) (DP.eC (.int 1)))) (DP.tE (DP.eBin DP.ltF (DP.eV 15) (DP.eBin DP.subF (DP.eCB DP.lenF (DP.aCons (DP.eV 8) DP.aNil)) (DP.eC (.int 1)))))) (DP.sPut DP.putF 14 (DP.eBin DP.subF (DP.eCB DP.lenF (DP.aCons (DP.eV 8) DP.aNil)) (DP.eC (.int 1))) (DP.eC (.str "give x"))) DP.sNext)
    (DP.sTry subx_InvalidRecipe 17 (DP.sSeq (DP.sDrop (DP.eCall m_read_recipe (DP.aCons (DP.eM1 DP.joinF (DP.eC (.str "\n")) (DP.eV 14)) DP.aNil)))
    (DP.sRet (DP.eC (.bl false)))) (DP.sIf (DP.tE (DP.eBin DP.neF (DP.eXf ["InvalidRecipe"] "line" 17) (DP.eV 15))) (DP.sRet (DP.eC (.bl false))) DP.sNext)))
def lawFin : DP.S := (DP.sSeq (DP.sSet 18 (DP.eLc [19] (DP.iR1 (DP.eCB DP.lenF (DP.aCons (DP.eV 4) DP.aNil))) (DP.gN 19) (DP.tE (DP.eBin DP.eqF (DP.eBin DP.ixF (DP.eV 5) (DP.eV 19)) (DP.eC (.str "number")))) (DP.eV 19)))
    (DP.sSeq (DP.sIf (DP.tE (DP.eBin DP.eqF (DP.eCB DP.lenF (DP.aCons (DP.eV 18) DP.aNil)) (DP.eC (.int 0)))) (DP.sRet (DP.eC (.bl true))) DP.sNext)
    (DP.sSeq (DP.sTryX subx_WrongKind (DP.sDrop (DP.eNewS m_Recipe__init [] (DP.aCons (DP.eM1 DP.joinF (DP.eC (.str "")) (DP.eV 2)) (DP.aCons (DP.eBin DP.addF (DP.eCall m__law_given (DP.aCons (DP.eV 4) DP.aNil)) (DP.eLst (DP.aCons (DP.eTup (DP.aCons (DP.eBin DP.ixF (DP.eLst (DP.aCons (DP.eC (.str "transpose")) (DP.aCons (DP.eC (.str "inverse")) (DP.aCons (DP.eC (.str "det")) DP.aNil)))) (DP.eBin DP.modF (DP.eCB DP.intF (DP.aCons (DP.eV 12) DP.aNil)) (DP.eC (.int 3)))) (DP.aCons (DP.eBin DP.ixF (DP.eV 18) (DP.eC (.int 0))) DP.aNil))) DP.aNil))) (DP.aCons (DP.eC (.int 0)) DP.aNil))))) (DP.sRet (DP.eC (.bl true))))
    (DP.sRet (DP.eC (.bl false))))))
def lawTail : DP.S := DP.sSeq (DP.sFor (DP.iR1 (DP.eC (.int 2))) (DP.gN 16) tBody) lawFin
def lawRest : DP.S := DP.sSeq (DP.sIf (DP.tE (DP.eBin DP.eqF (DP.eV 12) (DP.eC (.int 11)))) (DP.sSeq (DP.sSet 14 (DP.eSl DP.slF (DP.eV 8) DP.pNo (DP.pE (DP.eBin DP.subF (DP.eCB DP.lenF (DP.aCons (DP.eV 8) DP.aNil)) (DP.eC (.int 1))))))
    (DP.sSet 15 (DP.eCB DP.lenF (DP.aCons (DP.eV 8) DP.aNil)))) (DP.sIf (DP.tE (DP.eBin DP.eqF (DP.eV 12) (DP.eC (.int 12)))) (DP.sSeq (DP.sSet 14 (DP.eBin DP.addF (DP.eV 8) (DP.eLst (DP.aCons (DP.eC (.str "one")) DP.aNil))))
    (DP.sSet 15 (DP.eBin DP.addF (DP.eCB DP.lenF (DP.aCons (DP.eV 8) DP.aNil)) (DP.eC (.int 1))))) (DP.sIf (DP.tE (DP.eBin DP.eqF (DP.eV 12) (DP.eC (.int 13)))) (DP.sSeq (DP.sPut DP.putF 14 (DP.eC (.int 0)) (DP.eBin DP.addF (DP.eC (.str "recipe ")) (DP.eC (.str "aa"))))
    (DP.sSet 15 (DP.eC (.int 1)))) (DP.sIf (DP.tE (DP.eBin DP.eqF (DP.eV 12) (DP.eC (.int 14)))) (DP.sSeq (DP.sPut DP.putF 14 (DP.eC (.int 0)) (DP.eC (.str "recipe abcdefg")))
    (DP.sSet 15 (DP.eC (.int 1)))) (DP.sPut DP.putF 14 (DP.eV 13) (DP.eCall m__law_bad_line (DP.aCons (DP.eV 12) (DP.aCons (DP.eBin DP.subF (DP.eV 13) (DP.eC (.int 1))) (DP.aCons (DP.eV 5) DP.aNil))))))))) lawTail
theorem x_put {f : D → D → D → Option D} {l : Nat} {ix e : E} {Γ Γ1 Γ2 : Env} {o : Opd} {v d0 d i d' : D} (he : e Γ = .ok o Γ1) (ho : o.str = some v) (h0 : Γ1[l]? = some (.ow d0)) (hi : ix Γ1 = .ok (.val i) Γ2) (h2 : Γ2[l]? = some (.ow d)) (hf : f d i v = some d') : sPut f l ix e Γ = .next (Γ2.set l (.ow d')) := by
  unfold sPut
  rw [he]
  show (match o.str with
  | some v => match Γ1[l]? with
    | some (.ow _) => (ix Γ1).toSB fun oi Γ2 => match oi, Γ2[l]? with
      | .val i, some (.ow d) => match f d i v with
        | some d' => SR.next (Γ2.set l (.ow d'))
        | none => .stuck
      | _, _ => .stuck
    | _ => .stuck
  | none => .stuck) = _
  rw [ho]
  dsimp only
  rw [h0]
  dsimp only
  rw [hi]
  show (match Opd.val i, Γ2[l]? with
      | .val i, some (.ow d) => match f d i v with
        | some d' => SR.next (Γ2.set l (.ow d'))
        | none => .stuck
      | _, _ => .stuck) = _
  rw [h2]
  dsimp only
  rw [hf]
theorem x_try {sub : Str → Option Bool} {j : Nat} {b su : DP.S} {Γ Γ1 Γ2 : Env} {c : Str} {fs : List D} (h : b Γ = .exc c fs Γ1) (hs : sub c = some true) (hn : su (Γ1.set j (.ex c fs)) = .next Γ2) : sTry sub j b su Γ = .next (unEx j Γ2) := by
  unfold sTry
  rw [h]
  dsimp only
  rw [hs]
  dsimp only
  rw [hn]
def GG (scr ls laws kd lines bad rec text back : D) (z0 sz res way place due : D) (s9 s16 s17 s18 s19 : Slot) : Env :=
  [.sh scr, .sh z0, .sh ls, .sh sz, .sh laws, .sh kd, .sh res, .sh rec, .ow lines, s9, .sh text, .sh back, .sh way, .sh place, .ow bad, .sh due, s16, s17, s18, s19]
structure Bad (bad : List Str) (due : Nat) : Prop where
  ok : ∀ w ∈ bad, LineOk w
  ln : bad.length ≤ 30
  ne : bad ≠ []
  rd : ∀ t : Str, Txt.split t "\n" = bad → t.length ≤ 1000000 → m_read_recipe [.str t] = .exc "InvalidRecipe" (exL (.int (due : Nat)))
theorem sum_le2 {b : Nat} : ∀ ys : List Str, (∀ y ∈ ys, y.length ≤ b) → (ys.map (·.length)).sum ≤ ys.length * b
  | [], _ => Nat.zero_le _
  | y :: r, h => by
    have h1 := h y List.mem_cons_self
    have h2 := sum_le2 r fun z hz => h z (List.mem_cons_of_mem _ hz)
    rw [List.map_cons, List.sum_cons,
        List.length_cons, Nat.succ_mul]
    omega
theorem text_len {ls : List Str} (h : ∀ w ∈ ls, LineOk w) (hl : ls.length ≤ 30) : (Txt.join "\n" ls).length ≤ 1000000 := by
  have h1 := join_len "\n" ls
  have h2 := sum_le2 ls fun w hw => (h w hw).ln
  have h3 : ("\n" : Str).length = 1 := by decide +kernel
  rw [h3] at h1
  omega
theorem Bad.read {bad : List Str} {due : Nat} (h : Bad bad due) : m_read_recipe [.str (Txt.join "\n" bad)] = .exc "InvalidRecipe" (exL (.int (due : Nat))) :=
  h.rd _ (split_lines h.ok h.ne) (text_len h.ok h.ln)
section
variable {scr ls laws kd rec text back : D} {z0 sz res way place : D} {lines bad : List Str} {due : Nat} {s9 s16 s18 s19 : Slot}
/-- the suite that reads, whatever is in the slots -/
theorem t_try {s16 : D} {s9 s18 s19 : D} (hb : Bad bad due) : (DP.sTry subx_InvalidRecipe 17 (DP.sSeq (DP.sDrop (DP.eCall m_read_recipe (DP.aCons (DP.eM1 DP.joinF (DP.eC (.str "\n")) (DP.eV 14)) DP.aNil))) (DP.sRet (DP.eC (.bl false)))) (DP.sIf (DP.tE (DP.eBin DP.neF (DP.eXf ["InvalidRecipe"] "line" 17) (DP.eV 15))) (DP.sRet (DP.eC (.bl false))) DP.sNext)) (GG scr ls laws kd (.lst (lines.map D.str)) (.lst (bad.map D.str)) rec text back z0 sz res way place (.int (due : Nat)) .no (.sh s16) .no .no .no)
    = .next (GG scr ls laws kd (.lst (lines.map D.str)) (.lst (bad.map D.str)) rec text back z0 sz res way place (.int (due : Nat)) .no (.sh s16) .no .no .no) := by
  have hj := join_lines hb.ok (Nat.le_trans hb.ln (by decide))
  have e1 := x_call2 (f := m_read_recipe) (Γ := GG scr ls laws kd (.lst (lines.map D.str)) (.lst (bad.map D.str)) rec text back z0 sz res way place (.int (due : Nat)) .no (.sh s16) .no .no .no) (x_cons (x_m1 (a := DP.eC (.str "\n")) (b := DP.eV 14) x_eC rfl (x_ow rfl) rfl hj) x_nil) rfl hb.read (cc_exc rfl)
  have e2 : (DP.sIf (DP.tE (DP.eBin DP.neF (DP.eXf ["InvalidRecipe"] "line" 17) (DP.eV 15))) (DP.sRet (DP.eC (.bl false))) DP.sNext) ((GG scr ls laws kd (.lst (lines.map D.str)) (.lst (bad.map D.str)) rec text back z0 sz res way place (.int (due : Nat)) .no (.sh s16) .no .no .no).set 17 (.ex "InvalidRecipe" (exL (.int (due : Nat))))) = .next ((GG scr ls laws kd (.lst (lines.map D.str)) (.lst (bad.map D.str)) rec text back z0 sz res way place (.int (due : Nat)) .no (.sh s16) .no .no .no).set 17 (.ex "InvalidRecipe" (exL (.int (due : Nat))))) := by
    have ex : eXf ["InvalidRecipe"] "line" 17 ((GG scr ls laws kd (.lst (lines.map D.str)) (.lst (bad.map D.str)) rec text back z0 sz res way place (.int (due : Nat)) .no (.sh s16) .no .no .no).set 17 (.ex "InvalidRecipe" (exL (.int (due : Nat))))) = .ok (.val (.int (due : Nat))) _ := rfl
    exact x_sIfF (x_tE (x_bin ex (x_sh rfl) rfl rfl (x_nei (by rw [decide_eq_true rfl]; rfl)))) rfl
  exact x_try (x_seqX (x_dropX e1)) rfl e2
theorem putS {bad : List Str} {i : Nat} {w : Str} (h : i < bad.length) : putF (.lst (bad.map D.str)) (.int (i : Nat)) (.str w) = some (.lst ((bad.set i w).map D.str)) := by
  show (if (decide ((0 : Int) ≤ (i : Nat)) && decide (((i : Nat) : Int) < (bad.map D.str).length)) = true then some (D.lst ((bad.map D.str).set ((i : Nat) : Int).toNat (.str w))) else none) = _
  rw [List.length_map, decide_eq_true (by omega), decide_eq_true (by omega), if_pos (show (true && true) = true from rfl), Int.toNat_natCast, List.map_set]
theorem tail_ok {n : Nat} (hn : lines.length = n + 2) (hn2 : n ≤ 20) (hb : Bad bad due) (hb2 : (due < n + 1 → n + 1 < bad.length ∧ Bad (bad.set (n + 1) "give x") due)) {r : SR}
    (hr : ∀ bad' : D, lawFin (GG scr ls laws kd (.lst (lines.map D.str)) bad' rec text back z0 sz res way place (.int (due : Nat)) .no (.sh (.int 1)) .no .no .no) = r) :
    lawTail (GG scr ls laws kd (.lst (lines.map D.str)) (.lst (bad.map D.str)) rec text back z0 sz res way place (.int (due : Nat)) .no .no .no .no .no) = r := by
  have hN : lenF [.lst (lines.map D.str)] = some (.val (.int ((n + 2 : Nat) : Int))) := by rw [lenN, List.length_map, hn]
  have hS : subF (.int ((n + 2 : Nat) : Int)) (.int 1) = some (.val (.int ((n + 1 : Nat) : Int))) := by
    show ov (.int (((n + 2 : Nat) : Int) - 1)) = _
    rw [show ((n + 2 : Nat) : Int) - 1 = ((n + 1 : Nat) : Int) by omega]
    rfl
  have hlt := x_lt (i := (due : Nat)) (j := ((n + 1 : Nat) : Int)) rfl
  have turn0 : tBody (GG scr ls laws kd (.lst (lines.map D.str)) (.lst (bad.map D.str)) rec text back z0 sz res way place (.int (due : Nat)) .no (.sh (.int 0)) .no .no .no) = .next (GG scr ls laws kd (.lst (lines.map D.str)) (.lst (bad.map D.str)) rec text back z0 sz res way place (.int (due : Nat)) .no (.sh (.int 0)) .no .no .no) := by
    unfold tBody
    refine x_seq (x_sIfF (x_tAnd (x_tE (x_bin (x_sh rfl) x_eC rfl rfl (x_eqi rfl))) rfl) rfl) ?_
    exact t_try (s16 := .int 0) (s9 := .non) (s18 := .non) (s19 := .non) hb
  have turn1 : ∃ bad' : D, tBody (GG scr ls laws kd (.lst (lines.map D.str)) (.lst (bad.map D.str)) rec text back z0 sz res way place (.int (due : Nat)) .no (.sh (.int 1)) .no .no .no) = .next (GG scr ls laws kd (.lst (lines.map D.str)) bad' rec text back z0 sz res way place (.int (due : Nat)) .no (.sh (.int 1)) .no .no .no) := by
    by_cases hd : due < n + 1
    · obtain ⟨hi, hb3⟩ := hb2 hd
      rw [decide_eq_true (by omega)] at hlt
      refine ⟨.lst ((bad.set (n + 1) "give x").map D.str), ?_⟩
      have hp := putS (w := "give x") hi
      unfold tBody
      refine x_seq (x_sIfT (x_tAnd (x_tE (x_bin (x_sh rfl) x_eC rfl rfl (x_eqi rfl))) (x_tE (x_bin (x_sh rfl) (x_bin (x_cb (x_cons (x_ow rfl) x_nil) rfl hN) x_eC rfl rfl hS) rfl rfl hlt))) (x_put x_eC rfl rfl (x_bin (x_cb (x_cons (x_ow rfl) x_nil) rfl hN) x_eC rfl rfl hS) rfl hp)) ?_
      exact t_try (s16 := .int 1) (s9 := .non) (s18 := .non) (s19 := .non) hb3
    · rw [decide_eq_false (by omega)] at hlt
      refine ⟨.lst (bad.map D.str), ?_⟩
      unfold tBody
      refine x_seq (x_sIfF (x_tAnd (x_tE (x_bin (x_sh rfl) x_eC rfl rfl (x_eqi rfl))) (x_tE (x_bin (x_sh rfl) (x_bin (x_cb (x_cons (x_ow rfl) x_nil) rfl hN) x_eC rfl rfl hS) rfl rfl hlt))) rfl) ?_
      exact t_try (s16 := .int 1) (s9 := .non) (s18 := .non) (s19 := .non) hb
  obtain ⟨bad', h1⟩ := turn1
  refine x_seq (x_for (x_iR1 x_eC rfl) (f_next rfl turn0 (f_next rfl h1 f_nil))) ?_
  exact hr bad'
end

/-! M27t: the end of the law; every bad text. -/
theorem zInts_map : ∀ (n a : Nat), zInts (a : Nat) n = (List.range' a n).map fun k => D.int (k : Nat)
  | 0, _ => rfl
  | n + 1, a => by
    rw [zInts_cons, List.range'_succ, List.map_cons, zInts_map n (a + 1)]
section
variable {scr lines bad rec text back z0 sz res place due x : D} {L : Str} {ls : List Str} {ss : List Sk} {ks : List Bool} {w : Nat}
theorem law_fin (hj : joinF "" (.lst (ls.map D.str)) = some (.val (.str L))) (hv : VF L [] ss ks) (hk : ks.length ≤ 20) :
    lawFin (GG scr (.lst (ls.map D.str)) (.lst (ss.map lawD)) (KB ks) lines bad rec text back z0 sz res (.int (w : Nat)) place due .no (.sh x) .no .no .no) = .ret (.bl true) := by
  have hlen := hv.len
  have hlen : ks.length = 0 + ss.length := hlen
  have hN : lenF [.lst (ss.map lawD)] = some (.val (.int (ks.length : Nat))) := by rw [lenN, List.length_map, hlen, Nat.zero_add]
  have hin : inLine ((ks.length : Nat) : Int) = true := by unfold inLine; rw [decide_eq_true (by omega), decide_eq_true (by omega)]; rfl
  have hz : zInts 0 ((ks.length : Nat) : Int).toNat = (List.range ks.length).map fun k => D.int (k : Nat) := by
    rw [Int.toNat_natCast, List.range_eq_range']
    exact zInts_map _ 0
  have hp := lc_pure (j := 19) (c := (DP.tE (DP.eBin DP.eqF (DP.eBin DP.ixF (DP.eV 5) (DP.eV 19)) (DP.eC (.str "number"))))) (e := DP.eV 19) (Γ := GG scr (.lst (ls.map D.str)) (.lst (ss.map lawD)) (KB ks) lines bad rec text back z0 sz res (.int (w : Nat)) place due .no (.sh x) .no .no .no)
    (fun d => match d with | .int k => !(atB ks k.toNat) | _ => false) id rfl ((List.range ks.length).map fun k => D.int (k : Nat)) [] (fun d hd => by
      obtain ⟨k, hk2, rfl⟩ := List.mem_map.mp hd
      have hk2 := List.mem_range.mp hk2
      have e : eqF (.str (kS (atB ks k))) (.str "number") = some (.val (.bl (!(atB ks k)))) := by
        cases atB ks k <;> kernel_rfl
      show _ = R.ok (!(atB ks ((k : Nat) : Int).toNat)) _
      rw [Int.toNat_natCast]
      exact x_tE (x_bin (x_bin (x_sh rfl) (x_sh rfl) rfl rfl (ix_KB hk2)) x_eC rfl rfl e)) (fun d hd _ => ⟨_, x_sh rfl, rfl⟩) (by rw [List.length_map, List.length_range]; show 0 + ks.length ≤ 1000000; omega)
  rw [List.nil_append, List.map_id] at hp
  have e := x_lc (e := DP.eV 19) (x_iR1 (a := (DP.eCB DP.lenF (DP.aCons (DP.eV 4) DP.aNil))) (x_cb (x_cons (x_sh rfl) x_nil) rfl hN) hin) (Eq.trans (congrArg (fun q => lcLoop [19] (gN 19) (DP.tE (DP.eBin DP.eqF (DP.eBin DP.ixF (DP.eV 5) (DP.eV 19)) (DP.eC (.str "number")))) (DP.eV 19) q (wipe (GG scr (.lst (ls.map D.str)) (.lst (ss.map lawD)) (KB ks) lines bad rec text back z0 sz res (.int (w : Nat)) place due .no (.sh x) .no .no .no) [19]) []) hz) hp)
  generalize hq : List.filter (fun d => match d with | .int k => !(atB ks k.toNat) | _ => false) ((List.range ks.length).map fun k => D.int (k : Nat)) = q at e
  unfold lawFin
  refine x_seq (x_setf e) ?_
  cases q with
  | nil =>
    refine x_seqR (x_sIfT (x_tE (x_bin (x_cb (x_cons (x_ow rfl) x_nil) rfl rfl) x_eC rfl rfl (x_eqi rfl))) (x_ret x_eC rfl))
  | cons d q =>
    have hd : d ∈ List.filter (fun d => match d with | .int k => !(atB ks k.toNat) | _ => false) ((List.range ks.length).map fun k => D.int (k : Nat)) := by rw [hq]; exact List.mem_cons_self
    obtain ⟨hd1, hd2⟩ := List.mem_filter.mp hd
    obtain ⟨i, hi, rfl⟩ := List.mem_map.mp hd1
    have hi := List.mem_range.mp hi
    have hd2 : (!(atB ks ((i : Nat) : Int).toNat)) = true := hd2
    rw [Int.toNat_natCast, Bool.not_eq_true'] at hd2
    refine x_seq (x_sIfF (x_tE (x_bin (x_cb (x_cons (x_ow rfl) x_nil) rfl rfl) x_eC rfl rfl (x_eqi (decide_eq_false (by rw [List.length_cons]; omega))))) rfl) ?_
    obtain ⟨j, hj3, hm⟩ := modN (z := (w : Nat)) (n := 3) (by decide)
    have hm : modF (.int (w : Nat)) (.int 3) = some (.val (.int (j : Nat))) := hm
    have hg := given_ok (L := L) (n0 := ks.length) hk (r := ss) (fun s hs => hv.each s hs) (by omega)
    have fin : ∀ {s : Sk} {wd : Str}, givD s = .tup [.str wd, .int (i : Nat)] → s.idx ks.length → kindOf ks s = none → ixF (.lst [.str "transpose", .str "inverse", .str "det"]) (.int (j : Nat)) = some (.val (.str wd)) →
        (DP.sTryX subx_WrongKind (DP.sDrop (DP.eNewS m_Recipe__init [] (DP.aCons (DP.eM1 DP.joinF (DP.eC (.str "")) (DP.eV 2)) (DP.aCons (DP.eBin DP.addF (DP.eCall m__law_given (DP.aCons (DP.eV 4) DP.aNil)) (DP.eLst (DP.aCons (DP.eTup (DP.aCons (DP.eBin DP.ixF (DP.eLst (DP.aCons (DP.eC (.str "transpose")) (DP.aCons (DP.eC (.str "inverse")) (DP.aCons (DP.eC (.str "det")) DP.aNil)))) (DP.eBin DP.modF (DP.eCB DP.intF (DP.aCons (DP.eV 12) DP.aNil)) (DP.eC (.int 3)))) (DP.aCons (DP.eBin DP.ixF (DP.eV 18) (DP.eC (.int 0))) DP.aNil))) DP.aNil))) (DP.aCons (DP.eC (.int 0)) DP.aNil))))) (DP.sRet (DP.eC (.bl true)))) ((GG scr (.lst (ls.map D.str)) (.lst (ss.map lawD)) (KB ks) lines bad rec text back z0 sz res (.int (w : Nat)) place due .no (.sh x) .no .no .no).set 18 (.ow (.lst (.int (i : Nat) :: q)))) = .ret (.bl true) := fun {s wd} hs hix hkd hx => by
      have hR := recipe_no (L := L) (res := .int 0) hv (by omega) hix hkd
      rw [hs] at hR
      have ha : addF (.lst (ss.map givD)) (.lst [.tup [.str wd, .int (i : Nat)]]) = some (.fresh (.lst (ss.map givD ++ [.tup [.str wd, .int (i : Nat)]]))) := by
        show (if (ss.map givD).length + [D.tup [.str wd, .int (i : Nat)]].length ≤ 1000000 then of (.lst (ss.map givD ++ [.tup [.str wd, .int (i : Nat)]])) else none) = _
        rw [if_pos (by rw [List.length_map]; show ss.length + 1 ≤ 1000000; omega)]
        rfl
      have c1 := x_newX (x_cons (x_m1 (a := DP.eC (.str "")) (b := DP.eV 2) (Γ := ((GG scr (.lst (ls.map D.str)) (.lst (ss.map lawD)) (KB ks) lines bad rec text back z0 sz res (.int (w : Nat)) place due .no (.sh x) .no .no .no).set 18 (.ow (.lst (.int (i : Nat) :: q))))) x_eC rfl (x_sh rfl) rfl hj)
        (x_cons (x_bin (x_call2 (x_cons (x_sh (i := 4) rfl) x_nil) rfl hg (cc_no rfl)) (x_lst (x_cons (x_tup (x_cons (x_bin (x_lst (x_cons x_eC (x_cons x_eC (x_cons x_eC x_nil))) rfl (Nat.le_of_ble_eq_true rfl)) (x_bin (x_cb (x_cons (x_sh (i := 12) rfl) x_nil) rfl (intI _)) x_eC rfl rfl hm) rfl rfl hx) (x_cons (x_bin (x_ow (i := 18) rfl) x_eC rfl rfl (i0 _ _)) x_nil)) rfl (Nat.le_of_ble_eq_true rfl)) x_nil) rfl (Nat.le_of_ble_eq_true rfl)) rfl rfl ha) (x_cons x_eC x_nil))) rfl hR
      exact x_tryT (x_dropX c1) rfl (x_ret x_eC rfl)
    refine x_seqR ?_
    have hj4 : j = 0 ∨ j = 1 ∨ j = 2 := by omega
    rcases hj4 with rfl | rfl | rfl
    · exact fin (s := .transpose i) rfl hi (by show (if atB ks i = true then some true else none) = none; rw [hd2]; rfl) (by kernel_rfl)
    · exact fin (s := .inverse i) rfl hi (by show (if atB ks i = true then some true else none) = none; rw [hd2]; rfl) (by kernel_rfl)
    · exact fin (s := .det i) rfl hi (by show (if atB ks i = true then some false else none) = none; rw [hd2]; rfl) (by kernel_rfl)
end
/-! bad texts -/
section
variable {L : Str} {ss : List Sk} {ks : List Bool} {res : Nat}
theorem lit_ok {l : Str} (h1 : 10 ∉ l.cps.toList) (h2 : l.length ≤ 100) : LineOk l := ⟨h1, h2⟩
theorem read_let_aa : m__read_letters [.str "recipe aa"] = .exc "InvalidRecipe" (exL (.int 1)) := by kernel_rfl
theorem read_let_7 : m__read_letters [.str "recipe abcdefg"] = .exc "InvalidRecipe" (exL (.int 1)) := by kernel_rfl
theorem bad_head {l0 : Str} {rest : List Str} (h0 : LineOk l0) (hr : ∀ w ∈ rest, LineOk w) (hl : rest.length ≤ 25) (h : m__read_letters [.str l0] = .exc "InvalidRecipe" (exL (.int 1))) : Bad (l0 :: rest) 1 :=
  ⟨fun w hw => by
    rcases List.mem_cons.mp hw with rfl | hw
    · exact h0
    · exact hr w hw, by rw [List.length_cons]; omega, List.cons_ne_nil _ _, fun t hs ht => read_no0 hs ht h⟩
theorem setL_ok {ws : List Str} {i : Nat} {l : Str} (h : ∀ w ∈ ws, LineOk w) (hl : LineOk l) : ∀ w ∈ ws.set i l, LineOk w := by
  intro w hw
  rcases List.mem_or_eq_of_mem_set hw with hw | rfl
  · exact h w hw
  · exact hl
theorem bad_at {a : List Sk} {ka : List Bool} {l : Str} {rest : List Str} (hh : m__read_letters [.str (headS L)] = .ok (.str L)) (h0 : LineOk (headS L)) (ha : VF L [] a ka) (hk : ka.length ≤ 20) (hb : BadL L a ka l) (hr : ∀ w ∈ rest, LineOk w) (hl : rest.length ≤ 5 ∨ a.length + rest.length ≤ 25) (hla : a.length ≤ 20) : Bad (headS L :: (a.map lineS ++ l :: rest)) (a.length + 2) := by
  have hak := ha.len
  have hak : ka.length = 0 + a.length := hak
  refine ⟨fun w hw => ?_, ?_, List.cons_ne_nil _ _, fun t hs ht => ?_⟩
  · rcases List.mem_cons.mp hw with rfl | hw
    · exact h0
    · rcases List.mem_append.mp hw with hw | hw
      · obtain ⟨s, hs, rfl⟩ := List.mem_map.mp hw
        exact line_ok (ha.each s hs).1 (ha.each s hs).2 hk
      · rcases List.mem_cons.mp hw with rfl | hw
        · exact hb.1
        · exact hr w hw
  · rw [List.length_cons, List.length_append, List.length_map, List.length_cons]
    omega
  · exact read_bad hs ht hh ha hk fun lines s7 s8 h8 => hb.2 t lines s7 s8 h8
end

/-! M27u: every way of a bad text. -/
theorem set_mid {α : Type} : ∀ (A : List α) (x l : α) (R : List α), (A ++ x :: R).set A.length l = A ++ l :: R
  | [], _, _, _ => rfl
  | a :: A, x, l, R => congrArg (a :: ·) (set_mid A x l R)
theorem set_far {α : Type} : ∀ (A : List α) (l g : α) (R : List α) (k : Nat), (A ++ l :: R).set (A.length + 1 + k) g = A ++ l :: R.set k g
  | [], l, g, R, k => by
    rw [show ([] : List α).length + 1 + k = k + 1 by simp [Nat.add_comm]]
    rfl
  | a :: A, l, g, R, k => by
    rw [show (a :: A).length + 1 + k = (A.length + 1 + k) + 1 by rw [List.length_cons]; omega]
    exact congrArg (a :: ·) (set_far A l g R k)
theorem split_at {α : Type} : ∀ {m : Nat} {ss : List α}, m < ss.length → ∃ a s b, ss = a ++ s :: b ∧ a.length = m
  | 0, x :: r, _ => ⟨[], x, r, rfl, rfl⟩
  | m + 1, x :: r, h => by
    obtain ⟨a, s, b, e, hl⟩ := split_at (m := m) (ss := r) (Nat.lt_of_succ_lt_succ h)
    exact ⟨x :: a, s, b, by rw [e]; rfl, by rw [List.length_cons, hl]⟩
  | _, [], h => absurd h (Nat.not_lt_zero _)
theorem givex_ok : LineOk "give x" := ⟨by decide +kernel, by decide +kernel⟩
theorem oneL_ok : LineOk "one" := ⟨by decide +kernel, by decide +kernel⟩
section
variable {scr rec text back z0 sz x : D} {L : Str} {ls : List Str} {ss : List Sk} {ks : List Bool} {w m res : Nat}
theorem law_rest (hj : joinF "" (.lst (ls.map D.str)) = some (.val (.str L))) (hh : m__read_letters [.str (headS L)] = .ok (.str L)) (hL : LettersOk L) (hA : inTF (.str "A") (.str L) = some (.val (.bl false))) (hv : VF L [] ss ks) (hk : ks.length ≤ 14) (hr : res < ks.length) (hm : m < ss.length) (hw : w < 15) :
    lawRest (GG scr (.lst (ls.map D.str)) (.lst (ss.map lawD)) (KB ks) (.lst ((linesS L ss res).map D.str)) (.lst ((linesS L ss res).map D.str)) rec text back z0 sz (.int (res : Nat)) (.int (w : Nat)) (.int ((m + 1 : Nat) : Int)) (.int ((m + 2 : Nat) : Int)) .no .no .no .no .no) = .ret (.bl true) := by
  have hlen := hv.len
  have hlen : ks.length = 0 + ss.length := hlen
  have hall : ∀ s ∈ ss, s.fr L ∧ s.idx ks.length := fun s hs => hv.each s hs
  have hlo := lines_ok hL hall (by omega) (show res < 20 by omega)
  have hll := lines_len L ss res
  have h0 := head_ok hL
  have hfin : ∀ (place due bad' : D), lawFin (GG scr (.lst (ls.map D.str)) (.lst (ss.map lawD)) (KB ks) (.lst ((linesS L ss res).map D.str)) bad' rec text back z0 sz (.int (res : Nat)) (.int (w : Nat)) place due .no (.sh (.int 1)) .no .no .no) = .ret (.bl true) := fun place due bad' => law_fin hj hv (by omega)
  have hN : lenF [.lst ((linesS L ss res).map D.str)] = some (.val (.int ((ss.length + 2 : Nat) : Int))) := by rw [lenN, List.length_map, hll]
  have ss_ok : ∀ w ∈ ss.map lineS, LineOk w := fun w hw => by
    obtain ⟨s, hs, rfl⟩ := List.mem_map.mp hw
    exact line_ok (hall s hs).1 (hall s hs).2 (by omega)
  have e11 : ∀ {k : Int}, (w : Int) = k ∨ (w : Int) ≠ k := fun {k} => Classical.em _
  unfold lawRest
  by_cases h11 : w = 11
  · subst h11
    have hbad : Bad (headS L :: ss.map lineS) (ss.length + 2) := ⟨fun w hw => by
      rcases List.mem_cons.mp hw with rfl | hw
      · exact h0
      · exact ss_ok w hw, by rw [List.length_cons, List.length_map]; omega, List.cons_ne_nil _ _, fun t hs ht => read_end hs ht hh hv (by omega)⟩
    have hS : subF (.int ((ss.length + 2 : Nat) : Int)) (.int 1) = some (.val (.int ((ss.length + 1 : Nat) : Int))) := by
      show ov (.int (((ss.length + 2 : Nat) : Int) - 1)) = _
      rw [show ((ss.length + 2 : Nat) : Int) - 1 = ((ss.length + 1 : Nat) : Int) by omega]
      rfl
    have hc : slF (.lst ((linesS L ss res).map D.str)) none (some ((ss.length + 1 : Nat) : Int)) = some (.fresh (.lst ((headS L :: ss.map lineS).map D.str))) := by
      show of (.lst (cut ((linesS L ss res).map D.str) none (some ((ss.length + 1 : Nat) : Int)))) = _
      have e : (linesS L ss res).map D.str = (headS L :: ss.map lineS).map D.str ++ [.str (numL res)] := by
        unfold linesS
        rw [List.map_cons, List.map_append, List.map_cons]
        rfl
      rw [e, show ss.length + 1 = ((headS L :: ss.map lineS).map D.str).length by rw [List.length_map, List.length_cons, List.length_map], cut_take]
      rfl
    refine x_seq (Γ1 := GG scr (.lst (ls.map D.str)) (.lst (ss.map lawD)) (KB ks) (.lst ((linesS L ss res).map D.str)) (.lst ((headS L :: ss.map lineS).map D.str)) rec text back z0 sz (.int (res : Nat)) (.int ((11 : Nat) : Int)) (.int ((m + 1 : Nat) : Int)) (.int ((ss.length + 2 : Nat) : Int)) .no .no .no .no .no) ?_ (tail_ok (n := ss.length) hll (by omega) hbad (fun h => by omega) fun bad' => hfin _ _ bad')
    refine nx (x_sIfT (x_tE (x_bin (x_sh rfl) x_eC rfl rfl (x_eqi rfl))) (x_seq (x_setf (x_sl (x_ow rfl) x_pNo (x_pE (x_bin (x_cb (x_cons (x_ow rfl) x_nil) rfl hN) x_eC rfl rfl hS)) rfl hc)) (x_setv (x_cb (x_cons (x_ow rfl) x_nil) rfl hN)))) rfl
  by_cases h12 : w = 12
  · subst h12
    have hbad : Bad (headS L :: (ss.map lineS ++ numL res :: ["one"])) (ss.length + 3) := ⟨fun w hw => by
      rcases List.mem_cons.mp hw with rfl | hw
      · exact h0
      · rcases List.mem_append.mp hw with hw | hw
        · exact ss_ok w hw
        · rcases List.mem_cons.mp hw with rfl | hw
          · exact giveL_ok (by omega)
          · rw [List.mem_singleton.mp hw]
            exact oneL_ok, by rw [List.length_cons, List.length_append, List.length_map]; show ss.length + 2 + 1 ≤ 30; omega, List.cons_ne_nil _ _, fun t hs ht => by
      have h := read_give hs ht hh hv (by omega) hr
      rw [if_neg (show ¬ (["one"] : List Str).length = 0 by decide)] at h
      exact h⟩
    have hc : addF (.lst ((linesS L ss res).map D.str)) (.lst [.str "one"]) = some (.fresh (.lst ((headS L :: (ss.map lineS ++ numL res :: ["one"])).map D.str))) := by
      show (if ((linesS L ss res).map D.str).length + [D.str "one"].length ≤ 1000000 then of (.lst ((linesS L ss res).map D.str ++ [.str "one"])) else none) = _
      rw [if_pos (by rw [List.length_map, hll]; show ss.length + 2 + 1 ≤ 1000000; omega)]
      have e : (linesS L ss res).map D.str ++ [.str "one"] = (headS L :: (ss.map lineS ++ numL res :: ["one"])).map D.str := by
        unfold linesS
        simp only [List.map_cons, List.map_append, List.map_nil, List.cons_append, List.append_assoc, List.nil_append]
      rw [e]
      rfl
    have hS : addF (.int ((ss.length + 2 : Nat) : Int)) (.int 1) = some (.val (.int ((ss.length + 3 : Nat) : Int))) := rfl
    refine x_seq (Γ1 := GG scr (.lst (ls.map D.str)) (.lst (ss.map lawD)) (KB ks) (.lst ((linesS L ss res).map D.str)) (.lst ((headS L :: (ss.map lineS ++ numL res :: ["one"])).map D.str)) rec text back z0 sz (.int (res : Nat)) (.int ((12 : Nat) : Int)) (.int ((m + 1 : Nat) : Int)) (.int ((ss.length + 3 : Nat) : Int)) .no .no .no .no .no) ?_ (tail_ok (n := ss.length) hll (by omega) hbad (fun h => by omega) fun bad' => hfin _ _ bad')
    refine nx (x_sIfF (x_tE (x_bin (x_sh rfl) x_eC rfl rfl (x_eqi rfl))) (x_sIfT (x_tE (x_bin (x_sh rfl) x_eC rfl rfl (x_eqi rfl))) (x_seq (x_setf (x_bin (x_ow rfl) (x_lst (x_cons x_eC x_nil) rfl (Nat.le_of_ble_eq_true rfl)) rfl rfl hc)) (x_setv (x_bin (x_cb (x_cons (x_ow rfl) x_nil) rfl hN) x_eC rfl rfl hS))))) rfl
  have hset0 : ∀ l : Str, (linesS L ss res).set 0 l = l :: (ss.map lineS ++ [numL res]) := fun l => rfl
  have rest_ok : ∀ w ∈ ss.map lineS ++ [numL res], LineOk w := fun w hw => by
    rcases List.mem_append.mp hw with hw | hw
    · exact ss_ok w hw
    · rw [List.mem_singleton.mp hw]
      exact giveL_ok (by omega)
  have rest_len : (ss.map lineS ++ [numL res]).length = ss.length + 1 := by rw [List.length_append, List.length_map]; rfl
  have two : ∀ {l : Str}, LineOk l → m__read_letters [.str l] = .exc "InvalidRecipe" (exL (.int 1)) → Bad (l :: (ss.map lineS ++ [numL res])) 1 ∧ (1 < ss.length + 1 → ss.length + 1 < (l :: (ss.map lineS ++ [numL res])).length ∧ Bad ((l :: (ss.map lineS ++ [numL res])).set (ss.length + 1) "give x") 1) := fun {l} hl hx =>
    ⟨bad_head hl rest_ok (by rw [rest_len]; omega) hx, fun _ => ⟨by rw [List.length_cons, rest_len]; omega, by
      rw [List.set_cons_succ]
      exact bad_head hl (setL_ok rest_ok givex_ok) (by rw [List.length_set, rest_len]; omega) hx⟩⟩
  by_cases h13 : w = 13
  · subst h13
    obtain ⟨b1, b2⟩ := two (l := "recipe aa") ⟨by decide +kernel, by decide +kernel⟩ read_let_aa
    have hp := putS (bad := linesS L ss res) (i := 0) (w := "recipe aa") (by rw [hll]; omega)
    have ha : addF (.str "recipe ") (.str "aa") = some (.val (.str "recipe aa")) := by kernel_rfl
    refine x_seq (Γ1 := GG scr (.lst (ls.map D.str)) (.lst (ss.map lawD)) (KB ks) (.lst ((linesS L ss res).map D.str)) (.lst (((linesS L ss res).set 0 "recipe aa").map D.str)) rec text back z0 sz (.int (res : Nat)) (.int ((13 : Nat) : Int)) (.int ((m + 1 : Nat) : Int)) (.int ((1 : Nat) : Int)) .no .no .no .no .no) ?_ (tail_ok (n := ss.length) hll (by omega) b1 b2 fun bad' => hfin _ _ bad')
    refine nx (x_sIfF (x_tE (x_bin (x_sh rfl) x_eC rfl rfl (x_eqi rfl))) (x_sIfF (x_tE (x_bin (x_sh rfl) x_eC rfl rfl (x_eqi rfl))) (x_sIfT (x_tE (x_bin (x_sh rfl) x_eC rfl rfl (x_eqi rfl))) (x_seq (x_put (x_bin x_eC x_eC rfl rfl ha) rfl rfl x_eC rfl hp) (x_setv x_eC))))) rfl
  by_cases h14 : w = 14
  · subst h14
    obtain ⟨b1, b2⟩ := two (l := "recipe abcdefg") ⟨by decide +kernel, by decide +kernel⟩ read_let_7
    have hp := putS (bad := linesS L ss res) (i := 0) (w := "recipe abcdefg") (by rw [hll]; omega)
    refine x_seq (Γ1 := GG scr (.lst (ls.map D.str)) (.lst (ss.map lawD)) (KB ks) (.lst ((linesS L ss res).map D.str)) (.lst (((linesS L ss res).set 0 "recipe abcdefg").map D.str)) rec text back z0 sz (.int (res : Nat)) (.int ((14 : Nat) : Int)) (.int ((m + 1 : Nat) : Int)) (.int ((1 : Nat) : Int)) .no .no .no .no .no) ?_ (tail_ok (n := ss.length) hll (by omega) b1 b2 fun bad' => hfin _ _ bad')
    refine nx (x_sIfF (x_tE (x_bin (x_sh rfl) x_eC rfl rfl (x_eqi rfl))) (x_sIfF (x_tE (x_bin (x_sh rfl) x_eC rfl rfl (x_eqi rfl))) (x_sIfF (x_tE (x_bin (x_sh rfl) x_eC rfl rfl (x_eqi rfl))) (x_sIfT (x_tE (x_bin (x_sh rfl) x_eC rfl rfl (x_eqi rfl))) (x_seq (x_put x_eC rfl rfl x_eC rfl hp) (x_setv x_eC)))))) rfl
  have hw10 : w ≤ 10 := by omega
  obtain ⟨a, s, b, rfl, rfl⟩ := split_at hm
  obtain ⟨ka, ha, hb⟩ := hv.split
  obtain ⟨z, hz⟩ := hb.pre
  have hal := ha.len
  have hal : ka.length = 0 + a.length := hal
  have hsl : (a ++ s :: b).length = a.length + 1 + b.length := by rw [List.length_append, List.length_cons]; omega
  obtain ⟨l, hl1, hl2⟩ := bad_line (z := z) hA (ss := a) (ks := ka) (by omega) (by omega) hw10
  rw [← hz] at hl1
  have hlin : linesS L (a ++ s :: b) res = headS L :: (a.map lineS ++ lineS s :: (b.map lineS ++ [numL res])) := by
    unfold linesS
    rw [List.map_append, List.map_cons, List.append_assoc]
    rfl
  have hset : (linesS L (a ++ s :: b) res).set (a.length + 1) l = headS L :: (a.map lineS ++ l :: (b.map lineS ++ [numL res])) := by
    rw [hlin, List.set_cons_succ]
    have := set_mid (a.map lineS) (lineS s) l (b.map lineS ++ [numL res])
    rw [List.length_map] at this
    rw [this]
  have tl_ok : ∀ w ∈ b.map lineS ++ [numL res], LineOk w := fun w hw => rest_ok w (by
    rw [List.map_append, List.map_cons, List.append_assoc]
    exact List.mem_append_right _ (List.mem_cons_of_mem _ hw))
  have tl_len : (b.map lineS ++ [numL res]).length = b.length + 1 := by rw [List.length_append, List.length_map]; rfl
  have b1 : Bad ((linesS L (a ++ s :: b) res).set (a.length + 1) l) (a.length + 2) := by
    rw [hset]
    exact bad_at hh h0 ha (by omega) hl2 tl_ok (.inr (by rw [tl_len]; omega)) (by omega)
  have b2 : a.length + 2 < (a ++ s :: b).length + 1 → (a ++ s :: b).length + 1 < ((linesS L (a ++ s :: b) res).set (a.length + 1) l).length ∧ Bad (((linesS L (a ++ s :: b) res).set (a.length + 1) l).set ((a ++ s :: b).length + 1) "give x") (a.length + 2) := fun _ => by
    refine ⟨by rw [List.length_set, hll]; omega, ?_⟩
    rw [hset, List.set_cons_succ]
    have := set_far (a.map lineS) l "give x" (b.map lineS ++ [numL res]) b.length
    rw [List.length_map, ← hsl] at this
    rw [this]
    have ho : ∀ w ∈ (b.map lineS ++ [numL res]).set b.length "give x", LineOk w := setL_ok tl_ok givex_ok
    have hle : ((b.map lineS ++ [numL res]).set b.length "give x").length = b.length + 1 := by rw [List.length_set, tl_len]
    exact bad_at hh h0 ha (by omega) hl2 ho (.inr (by rw [hle]; omega)) (by omega)
  have hS : subF (.int ((a.length + 1 : Nat) : Int)) (.int 1) = some (.val (.int (a.length : Nat))) := by
    show ov (.int (((a.length + 1 : Nat) : Int) - 1)) = _
    rw [show ((a.length + 1 : Nat) : Int) - 1 = ((a.length : Nat) : Int) by omega]
    rfl
  have hp := putS (bad := linesS L (a ++ s :: b) res) (i := a.length + 1) (w := l) (by rw [hll]; omega)
  refine x_seq (Γ1 := GG scr (.lst (ls.map D.str)) (.lst ((a ++ s :: b).map lawD)) (KB ks) (.lst ((linesS L (a ++ s :: b) res).map D.str)) (.lst (((linesS L (a ++ s :: b) res).set (a.length + 1) l).map D.str)) rec text back z0 sz (.int (res : Nat)) (.int (w : Nat)) (.int ((a.length + 1 : Nat) : Int)) (.int ((a.length + 2 : Nat) : Int)) .no .no .no .no .no) ?_ (tail_ok (n := (a ++ s :: b).length) hll (by omega) b1 b2 fun bad' => hfin _ _ bad')
  have nw : ∀ {k : Nat}, w ≠ k → eqF (.int (w : Nat)) (.int ((k : Nat) : Int)) = some (.val (.bl false)) := fun h => x_eqi (decide_eq_false (by omega))
  refine nx (x_sIfF (x_tE (x_bin (x_sh rfl) x_eC rfl rfl (nw (k := 11) h11))) (x_sIfF (x_tE (x_bin (x_sh rfl) x_eC rfl rfl (nw (k := 12) h12))) (x_sIfF (x_tE (x_bin (x_sh rfl) x_eC rfl rfl (nw (k := 13) h13))) (x_sIfF (x_tE (x_bin (x_sh rfl) x_eC rfl rfl (nw (k := 14) h14))) (x_put (x_call2 (x_cons (x_sh rfl) (x_cons (x_bin (x_sh rfl) x_eC rfl rfl hS) (x_cons (x_sh rfl) x_nil))) rfl hl1 (cc_no rfl)) rfl rfl (x_sh rfl) rfl hp))))) rfl
end

/-! M27v: the plain law of k27. -/
theorem x_tg {tg : Tg} {e : E} {Γ Γ1 Γ2 : Env} {o : Opd} {d : D} (h : e Γ = .ok o Γ1) (ho : o.str = some d) (ht : tg d Γ1 = some Γ2) : sTg tg e Γ = .next Γ2 := by
  unfold sTg
  rw [h]
  show (match o.str with
  | some d => match tg d Γ1 with
    | some Γ2 => SR.next Γ2
    | none => .stuck
  | none => .stuck) = _
  rw [ho]
  dsimp only
  rw [ht]
theorem x_prop {c : Str} {fn : Fn} {a : E} {Γ Γ1 : Env} {d r : D} (ha : a Γ = .ok (.val d) Γ1) (hi : isIns c d = true) (hf : fn [d] = .ok r) : eProp c fn a Γ = .ok (.val r) Γ1 := by
  unfold eProp
  rw [ha]
  show (if isIns c d = true then calm (giveR .val fn [.val d] Γ1) else .stuck) = _
  rw [if_pos hi]
  have e : giveR .val fn [.val d] Γ1 = .ok (.val r) Γ1 := by
    show (match fn [d] with
    | .ok d => R.ok (Opd.val d) Γ1
    | .exc c fs => .exc c fs Γ1
    | .stuck => .stuck) = _
    rw [hf]
  rw [e]
  rfl
def lineF (d : D) : D := match m__law_line [d] with
  | .ok x => x
  | _ => .non
theorem lineF_is {L : Str} {n : Nat} (hn : n ≤ 20) : ∀ {ss : List Sk}, (∀ s ∈ ss, s.fr L ∧ s.idx n) → (ss.map lawD).map lineF = ss.map fun s => .str (lineS s)
  | [], _ => rfl
  | s :: r, h => by
    rw [List.map_cons, List.map_cons, List.map_cons, lineF_is hn fun z hz => h z (List.mem_cons_of_mem _ hz)]
    have e := ll_all (h s List.mem_cons_self).1 (h s List.mem_cons_self).2 hn
    have : lineF (lawD s) = .str (lineS s) := by unfold lineF; rw [e]
    rw [this]
theorem law27 (ns : List Int) (hn : ns.length ≤ 63) (_ : ∀ z ∈ ns, PySem.Builtin.Int.intBits z ≤ 1048576) : DP.m_law [.scr (ns.map DP.D.int)] = .ok (.bl true) := by
  obtain ⟨z0, hz0⟩ := number_ok ns 0 (by decide) hn
  obtain ⟨z1, hz1⟩ := number_ok ns 1 (by decide) hn
  have hz0 : m__law_number [.scr (ns.map D.int), .int 0] = .ok (.int z0) := hz0
  have hz1 : m__law_number [.scr (ns.map D.int), .int 1] = .ok (.int z1) := hz1
  have dv : ∀ (k : Nat), 0 < k → k < 2 ^ 200 → fdivF (.int z0) (.int (k : Nat)) = some (.val (.int (z0 / (k : Int)))) := fun k h1 h2 => divN h1 h2
  obtain ⟨cnt, hc5, hmc⟩ := modN (z := z0 / 1000) (n := 5) (by decide)
  obtain ⟨a, j, ha, hj, hlet⟩ := letters_ok (z := z0) hc5
  obtain ⟨L, hjoin, hread, hL, hls, hA, hL0⟩ := chk_ok ha hj hc5
  have hlen : (ltrs a j cnt).length = cnt := by unfold ltrs; rw [List.length_map, List.length_range]
  generalize ltrs a j cnt = ls at hlet hjoin hls hL0 hlen
  obtain ⟨q3, h3, hm3⟩ := modN (z := z0 / 5000) (n := 3) (by decide)
  obtain ⟨many, h11, hm11⟩ := modN (z := z0 / 15000) (n := 11) (by decide)
  obtain ⟨ss, ks, hsteps, hv, hk0, hk14⟩ := steps_ok (L := L) (z := z1) (sz := 1 + (q3 : Int)) (many := many) hls (by omega) (by omega) (by omega) (by omega)
  have hsl := hv.len
  have hsl : ks.length = 0 + ss.length := hsl
  have hall : ∀ s ∈ ss, s.fr L ∧ s.idx ks.length := fun s hs => hv.each s hs
  obtain ⟨res, hres, hmres⟩ := modN (z := z0 / 165000) hk0
  obtain ⟨way, hway, hmway⟩ := modN (z := z0 / (7 ^ 9 : Nat)) (n := 15) (by decide)
  obtain ⟨m, hmm, hmm2⟩ := modN (z := z0 / (7 ^ 11 : Nat)) hk0
  have hR := law_rest (scr := .scr (ns.map D.int)) (rec := recD L ss ks res) (text := .str (textS L ss res)) (back := recD L ss ks res) (z0 := .int z0) (sz := .int (1 + (q3 : Int))) (w := way) (m := m) hjoin hread hL hA hv hk14 hres (by omega) hway
  refine run_ret rfl ?_
  show d_law [.sh (.scr (ns.map D.int)), .no, .no, .no, .no, .no, .no, .no, .no, .no, .no, .no, .no, .no, .no, .no, .no, .no, .no, .no] = _
  -- facts
  have d1 : fdivF (.int z0) (.int 1000) = some (.val (.int (z0 / 1000))) := dv 1000 (by decide) (by decide)
  have d2 : fdivF (.int z0) (.int 5000) = some (.val (.int (z0 / 5000))) := dv 5000 (by decide) (by decide)
  have d3 : fdivF (.int z0) (.int 15000) = some (.val (.int (z0 / 15000))) := dv 15000 (by decide) (by decide)
  have d4 : fdivF (.int z0) (.int 165000) = some (.val (.int (z0 / 165000))) := dv 165000 (by decide) (by decide)
  have d5 : fdivF (.int z0) (.int ((7 ^ 9 : Nat) : Int)) = some (.val (.int (z0 / ((7 ^ 9 : Nat) : Int)))) := dv (7 ^ 9) (by decide) (by decide)
  have d6 : fdivF (.int z0) (.int ((7 ^ 11 : Nat) : Int)) = some (.val (.int (z0 / ((7 ^ 11 : Nat) : Int)))) := dv (7 ^ 11) (by decide) (by decide)
  have p9 : powF (.int 7) (.int 9) = some (.val (.int ((7 ^ 9 : Nat) : Int))) := by kernel_rfl
  have p11 : powF (.int 7) (.int 11) = some (.val (.int ((7 ^ 11 : Nat) : Int))) := by kernel_rfl
  have m1 : modF (.int (z0 / 1000)) (.int 5) = some (.val (.int (cnt : Nat))) := hmc
  have m2 : modF (.int (z0 / 5000)) (.int 3) = some (.val (.int (q3 : Nat))) := hm3
  have m3 : modF (.int (z0 / 15000)) (.int 11) = some (.val (.int (many : Nat))) := hm11
  have m5 : modF (.int (z0 / ((7 ^ 9 : Nat) : Int))) (.int 15) = some (.val (.int (way : Nat))) := hmway
  have i1 := intI (z0 / 1000)
  have i2 := intI (z0 / 5000)
  have i3 := intI (z0 / 15000)
  have i4 := intI (z0 / 165000)
  have i5 := intI (z0 / ((7 ^ 9 : Nat) : Int))
  have i6 := intI (z0 / ((7 ^ 11 : Nat) : Int))
  have a1 := addI 1 (q3 : Nat)
  have nS : lenF [.lst (ss.map lawD)] = some (.val (.int (ks.length : Nat))) := by rw [lenN, List.length_map, hsl, Nat.zero_add]
  have nL : lenF [.lst (ls.map D.str)] = some (.val (.int (cnt : Nat))) := by rw [lenN, List.length_map, hlen]
  have hgiv := given_ok (L := L) (n0 := ks.length) (by omega) hall (by omega)
  have hrec := recipe_ok hv (by omega) hres
  have hnum := strF_num (i := res) (by omega)
  have hgive : addF (.str "give ") (.str (numS res)) = some (.val (.str (numL res))) := addS (by decide +kernel) (by have := numS_len res (by omega); omega)
  have hrl : addF (.str "recipe ") (.str L) = some (.val (.str ("recipe " ++ L))) := addS (by decide +kernel) (by have := hL.ln; omega)
  unfold d_law
  refine x_seq (x_setv (x_call2 (x_cons (x_sh rfl) (x_cons x_eC x_nil)) rfl hz0 (cc_no rfl))) ?_
  refine x_seq (x_setv (x_call2 (x_cons (x_sh rfl) (x_cons (x_bin (x_cb (x_cons (x_bin (x_sh rfl) x_eC rfl rfl d1) x_nil) rfl i1) x_eC rfl rfl m1) x_nil)) rfl hlet (cc_no rfl))) ?_
  refine x_seq (x_setv (x_bin x_eC (x_bin (x_cb (x_cons (x_bin (x_sh rfl) x_eC rfl rfl d2) x_nil) rfl i2) x_eC rfl rfl m2) rfl rfl a1)) ?_
  refine x_seq (x_tg (x_call2 (x_cons (x_call2 (x_cons (x_sh rfl) (x_cons x_eC x_nil)) rfl hz1 (cc_no rfl)) (x_cons (x_sh rfl) (x_cons (x_bin (x_cb (x_cons (x_bin (x_sh rfl) x_eC rfl rfl d3) x_nil) rfl i3) x_eC rfl rfl m3) (x_cons x_eC (x_cons x_eC (x_cons (x_sh rfl) x_nil)))))) rfl hsteps (cc_no rfl)) rfl rfl) ?_
  refine x_seq (x_setv (x_bin (x_cb (x_cons (x_bin (x_sh rfl) x_eC rfl rfl d4) x_nil) rfl i4) (x_cb (x_cons (x_sh rfl) x_nil) rfl nS) rfl rfl hmres)) ?_
  refine x_seq (x_setv (x_new0 (x_cons (x_m1 x_eC rfl (x_sh rfl) rfl hjoin) (x_cons (x_call2 (x_cons (x_sh rfl) x_nil) rfl hgiv (cc_no rfl)) (x_cons (x_sh rfl) x_nil))) rfl hrec rfl)) ?_
  refine x_seq (x_setf (x_lst (x_cons (x_bin x_eC (x_m1 x_eC rfl (x_sh rfl) rfl hjoin) rfl rfl hrl) x_nil) rfl (Nat.le_of_ble_eq_true rfl))) ?_
  refine x_seq (Γ1 := [.sh (.scr (ns.map D.int)), .sh (.int z0), .sh (.lst (ls.map D.str)), .sh (.int (1 + (q3 : Int))), .sh (.lst (ss.map lawD)), .sh (KB ks), .sh (.int (res : Nat)), .sh (recD L ss ks res), .ow (.lst [.str (headS L)]), .no, .no, .no, .no, .no, .no, .no, .no, .no, .no, .no]) ?_ ?_
  · by_cases h0 : cnt = 0
    · have hh : headS L = "recipe -" := if_pos (hL0.mpr (by omega))
      rw [hh]
      exact nx (x_sIfT (x_tE (x_bin (x_cb (x_cons (x_sh rfl) x_nil) rfl nL) x_eC rfl rfl (x_eqi (decide_eq_true (by omega))))) (x_setf (x_lst (x_cons x_eC x_nil) rfl (Nat.le_of_ble_eq_true rfl)))) rfl
    · have hh : headS L = "recipe " ++ L := if_neg fun h => h0 (by have := hL0.mp h; omega)
      rw [hh]
      exact nx (x_sIfF (x_tE (x_bin (x_cb (x_cons (x_sh rfl) x_nil) rfl nL) x_eC rfl rfl (x_eqi (decide_eq_false (by omega))))) rfl) rfl
  have hlc := elc_pure (i := 4) (j := 9) (c := tYes) (e := DP.eCall m__law_line (DP.aCons (DP.eV 9) DP.aNil)) (Γ := [.sh (.scr (ns.map D.int)), .sh (.int z0), .sh (.lst (ls.map D.str)), .sh (.int (1 + (q3 : Int))), .sh (.lst (ss.map lawD)), .sh (KB ks), .sh (.int (res : Nat)), .sh (recD L ss ks res), .ow (.lst [.str (headS L)]), .no, .no, .no, .no, .no, .no, .no, .no, .no, .no, .no]) (fun _ => true) lineF rfl (by rw [List.length_map]; omega) (fun d _ => rfl) (fun d hd _ => by
    obtain ⟨s, hs, rfl⟩ := List.mem_map.mp hd
    have e := ll_all (hall s hs).1 (hall s hs).2 (show ks.length ≤ 20 by omega)
    refine ⟨.val (lineF (lawD s)), x_call2 (x_cons (x_sh rfl) x_nil) rfl (by unfold lineF; rw [e]) (cc_no rfl), rfl⟩)
  rw [filter_all, lineF_is (show ks.length ≤ 20 by omega) hall] at hlc
  have hadd1 : addF (.lst [.str (headS L)]) (.lst (ss.map fun s => .str (lineS s))) = some (.fresh (.lst (.str (headS L) :: ss.map fun s => .str (lineS s)))) := by
    show (if [D.str (headS L)].length + (ss.map fun s => D.str (lineS s)).length ≤ 1000000 then of (.lst ([D.str (headS L)] ++ ss.map fun s => .str (lineS s))) else none) = _
    rw [if_pos (by rw [List.length_map]; show 1 + ss.length ≤ 1000000; omega)]
    rfl
  have hadd2 : addF (.lst (.str (headS L) :: ss.map fun s => .str (lineS s))) (.lst [.str (numL res)]) = some (.fresh (.lst ((linesS L ss res).map D.str))) := by
    show (if (D.str (headS L) :: ss.map fun s => D.str (lineS s)).length + [D.str (numL res)].length ≤ 1000000 then of (.lst ((D.str (headS L) :: ss.map fun s => D.str (lineS s)) ++ [.str (numL res)])) else none) = _
    rw [if_pos (by rw [List.length_cons, List.length_map]; show ss.length + 1 + 1 ≤ 1000000; omega), lines_map]
    rfl
  refine x_seq (x_setf (x_bin (x_bin (x_ow rfl) hlc rfl rfl hadd1) (x_lst (x_cons (x_bin x_eC (x_cb (x_cons (x_sh rfl) x_nil) rfl hnum) rfl rfl hgive) x_nil) rfl (Nat.le_of_ble_eq_true rfl)) rfl rfl hadd2)) ?_
  have hlo := lines_ok hL hall (show ks.length ≤ 20 by omega) (show res < 20 by omega)
  have hjl := join_lines hlo (by rw [lines_len]; omega)
  refine x_seq (x_setv (x_m1 x_eC rfl (x_ow rfl) rfl hjl)) ?_
  have hback : m_read_recipe [.str (Txt.join "\n" (linesS L ss res))] = .ok (recD L ss ks res) := by
    have h := read_give (t := Txt.join "\n" (linesS L ss res)) (L := L) (l0 := headS L) (ss := ss) (ks := ks) (res := res) (rest := []) (split_lines hlo (List.cons_ne_nil _ _)) (text_len hlo (by rw [lines_len]; omega)) hread hv (by omega) hres
    rw [if_pos (show ([] : List Str).length = 0 from rfl)] at h
    exact h
  refine x_seq (x_setv (x_call2 (x_cons (x_sh rfl) x_nil) rfl hback (cc_no rfl))) ?_
  have hshow := show_ok (ks := ks) (res := res) hL hall (show ks.length ≤ 20 by omega) (by omega) (by omega)
  have n1 := neS_refl (okS_text hL hall (show ks.length ≤ 20 by omega) (show res < 20 by omega))
  have hal := alike_rec (ks := ks) (res := res) hL.ok fun s hs => (hall s hs).1
  have fk := fld_kinds L ss ks res
  have hlist : listF [.tup (ks.map fun k => .str (kS k))] = some (.fresh (.lst (ks.map fun k => .str (kS k)))) := rfl
  have n3 := neK_lst ks
  have n4 := neK_tup ks
  refine x_seq (x_sIfF (x_tOr (x_tE (x_bin (x_call2 (x_cons (x_sh rfl) x_nil) rfl hshow (cc_no rfl)) (x_sh rfl) rfl rfl n1)) (ite_f rfl (x_tOr (x_tNot (x_tE (x_binXO (x_sh rfl) (x_sh rfl) rfl rfl hal))) (ite_f rfl (x_tOr (x_tE (x_bin (x_cb (x_cons (x_un (x_sh rfl) rfl fk) x_nil) rfl hlist) (x_sh rfl) rfl rfl n3)) (ite_f rfl (x_tE (x_bin (x_un (x_sh rfl) rfl fk) (x_un (x_sh rfl) rfl fk) rfl rfl n4)))))))) rfl) ?_
  have fk2 := fld_kind L ss ks res
  have ixk := ix_KB hres
  have n5 := neS_refl (kS_ok (atB ks res))
  have fl := fld_let L ss ks res
  have n6 := neS_refl hL.ok
  have fr := fld_result L ss ks res
  have n7 : neF (.int (res : Nat)) (.int (res : Nat)) = some (.val (.bl false)) := x_nei (by rw [decide_eq_true rfl]; rfl)
  have fs := fld_steps L ss ks res
  have nT : lenF [.tup (ss.map givD)] = some (.val (.int (ks.length : Nat))) := by
    show ov (.int ((ss.map givD).length : Nat)) = _
    rw [List.length_map, hsl, Nat.zero_add]
    rfl
  have n8 : neF (.int (ks.length : Nat)) (.int (ks.length : Nat)) = some (.val (.bl false)) := x_nei (by rw [decide_eq_true rfl]; rfl)
  refine x_seq (x_sIfF (x_tOr (x_tE (x_bin (x_un (x_sh rfl) rfl fk2) (x_bin (x_sh rfl) (x_sh rfl) rfl rfl ixk) rfl rfl n5)) (ite_f rfl (x_tOr (x_tE (x_bin (x_un (x_sh rfl) rfl fl) (x_m1 x_eC rfl (x_sh rfl) rfl hjoin) rfl rfl n6)) (ite_f rfl (x_tOr (x_tE (x_bin (x_un (x_sh rfl) rfl fr) (x_sh rfl) rfl rfl n7)) (ite_f rfl (x_tE (x_bin (x_cb (x_cons (x_un (x_sh rfl) rfl fs) x_nil) rfl nT) (x_cb (x_cons (x_sh rfl) x_nil) rfl nS) rfl rfl n8)))))))) rfl) ?_
  have hpl := plain_ok (L := L) (ss := ss) (ks := ks) (res := res) (by omega)
  have hcnt := count_new ss
  have n9 := neB_refl (!(ss.any isNew))
  refine x_seq (Γ1 := GG (.scr (ns.map D.int)) (.lst (ls.map D.str)) (.lst (ss.map lawD)) (KB ks) (.lst ((linesS L ss res).map D.str)) (.lst ((linesS L ss res).map D.str)) (recD L ss ks res) (.str (textS L ss res)) (recD L ss ks res) (.int z0) (.int (1 + (q3 : Int))) (.int (res : Nat)) .non .non .non .no .no .no .no .no |>.set 12 .no |>.set 13 .no |>.set 14 .no |>.set 15 .no) ?_ ?_
  · have hc2 := elc_pure (i := 4) (j := 9) (c := (DP.tE (DP.eBin DP.inF (DP.eBin DP.ixF (DP.eV 9) (DP.eC (.int 0))) (DP.eLst (DP.aCons (DP.eC (.str "transpose")) (DP.aCons (DP.eC (.str "inverse")) (DP.aCons (DP.eC (.str "det")) DP.aNil))))))) (e := DP.eV 9) (Γ := GG (.scr (ns.map D.int)) (.lst (ls.map D.str)) (.lst (ss.map lawD)) (KB ks) (.lst ((linesS L ss res).map D.str)) (.lst ((linesS L ss res).map D.str)) (recD L ss ks res) (.str (textS L ss res)) (recD L ss ks res) (.int z0) (.int (1 + (q3 : Int))) (.int (res : Nat)) .non .non .non .no .no .no .no .no |>.set 12 .no |>.set 13 .no |>.set 14 .no |>.set 15 .no) newE id rfl (by rw [List.length_map]; omega) (fun d hd => by
      obtain ⟨s, hs, rfl⟩ := List.mem_map.mp hd
      obtain ⟨w, h1, h2⟩ := new_law s
      rw [newE_law]
      exact x_tE (x_bin (x_bin (x_sh rfl) x_eC rfl rfl h1) (x_lst (x_cons x_eC (x_cons x_eC (x_cons x_eC x_nil))) rfl (Nat.le_of_ble_eq_true rfl)) rfl rfl h2)) (fun d hd _ => ⟨_, x_sh rfl, rfl⟩)
    have nC := lenN (((ss.map lawD).filter newE).map id)
    exact nx (x_sIfF (x_tE (x_bin (x_prop (x_sh rfl) rfl hpl) (x_bin (x_cb (x_cons hc2 x_nil) rfl nC) x_eC rfl rfl (x_eqi hcnt)) rfl rfl n9)) rfl) rfl
  refine x_seq (x_setv (x_bin (x_cb (x_cons (x_bin (x_sh rfl) (x_bin x_eC x_eC rfl rfl p9) rfl rfl d5) x_nil) rfl i5) x_eC rfl rfl m5)) ?_
  have a2 : addF (.int 1) (.int (m : Nat)) = some (.val (.int ((m + 1 : Nat) : Int))) := by
    show ov (.int (1 + (m : Int))) = _
    rw [show 1 + (m : Int) = ((m + 1 : Nat) : Int) by omega]
    rfl
  refine x_seq (x_setv (x_bin x_eC (x_bin (x_cb (x_cons (x_bin (x_sh rfl) (x_bin x_eC x_eC rfl rfl p11) rfl rfl d6) x_nil) rfl i6) (x_cb (x_cons (x_sh rfl) x_nil) rfl nS) rfl rfl hmm2) rfl rfl a2)) ?_
  have hli : listF [.lst ((linesS L ss res).map D.str)] = some (.fresh (.lst ((linesS L ss res).map D.str))) := rfl
  refine x_seq (x_setf (x_cb (x_cons (x_ow rfl) x_nil) rfl hli)) ?_
  have a3 : addF (.int ((m + 1 : Nat) : Int)) (.int 1) = some (.val (.int ((m + 2 : Nat) : Int))) := rfl
  refine x_seq (x_setv (x_bin (x_sh rfl) x_eC rfl rfl a3)) ?_
  exact hR

end DP
namespace DP
open PySem L2
def topK (i : Nat) : Stmt := PySem.Challenge.pw_kindsoftables_k27_texts_of_recipes.main.body.getD i (.Pass ⟨0, 0, 0, 0⟩)
abbrev st_Ratio__init : Stmt := inClass (topK 11) 0
abbrev st_Ratio__read : Stmt := inClass (topK 11) 1
abbrev st_Ratio__eq : Stmt := inClass (topK 11) 7
abbrev st_Ratio__str : Stmt := inClass (topK 11) 9
abbrev st_natural : Stmt := topK 12
abbrev st_step_kind : Stmt := topK 14
abbrev st_Recipe__init : Stmt := inClass (topK 18) 0
abbrev st_Recipe__eq : Stmt := inClass (topK 18) 1
abbrev st_Recipe__is_plain : Stmt := inClass (topK 18) 2
abbrev st_kind_of_step : Stmt := topK 19
abbrev st_show_recipe : Stmt := topK 24
abbrev st_read_recipe : Stmt := topK 25
abbrev st__read_letters : Stmt := topK 26
abbrev st__read_index : Stmt := topK 27
abbrev st__read_ratio : Stmt := topK 28
abbrev st__read_step : Stmt := topK 29
abbrev st__law_cell : Stmt := topK 31
abbrev st__law_number : Stmt := topK 32
abbrev st__law_steps : Stmt := topK 33
abbrev st__law_step : Stmt := topK 34
abbrev st__law_given : Stmt := topK 35
abbrev st__law_letters : Stmt := topK 36
abbrev st__law_line : Stmt := topK 37
abbrev st__law_bad_line : Stmt := topK 38
abbrev st_law : Stmt := topK 39
abbrev st_InvalidRecipe__init : Stmt := inClass (topK 6) 0
structure Txt (K : PySem.W.Frag) (mg : Str → Option Value) (A_Ratio A_Recipe A_InvalidRecipe A_ZeroDivisor A_InvalidNumber A_WrongKind a_NEW_WORDS a_PAIRS a__POWERS : Addr) : Prop where
  n_abs : mg "abs" = none
  n_any : mg "any" = none
  n_enumerate : mg "enumerate" = none
  n_int : mg "int" = none
  n_isinstance : mg "isinstance" = none
  n_len : mg "len" = none
  n_list : mg "list" = none
  n_max : mg "max" = none
  n_range : mg "range" = none
  n_set : mg "set" = none
  n_str : mg "str" = none
  n_tuple : mg "tuple" = none
  b_gcd : mg "gcd" = some (.builtin "math.gcd")
  mg_NEW_WORDS : mg "NEW_WORDS" = some (.ref a_NEW_WORDS)
  rep_NEW_WORDS : ∀ F, Rep ⟨K, mg, none, none⟩ F g_NEW_WORDS (.ref a_NEW_WORDS)
  mg_PAIRS : mg "PAIRS" = some (.ref a_PAIRS)
  rep_PAIRS : ∀ F, Rep ⟨K, mg, none, none⟩ F g_PAIRS (.ref a_PAIRS)
  mg__POWERS : mg "_POWERS" = some (.ref a__POWERS)
  rep__POWERS : ∀ F, Rep ⟨K, mg, none, none⟩ F g__POWERS (.ref a__POWERS)
  g_LOWER_CASE : ∃ u, mg "LOWER_CASE" = some u ∧ RelV (.str "abcdefghijklmnopqrstuvwxyz") u
  g_DIGITS : ∃ u, mg "DIGITS" = some u ∧ RelV (.str "0123456789") u
  g_MOST_DIGITS : ∃ u, mg "MOST_DIGITS" = some u ∧ RelV (.int 60) u
  g_MOST_RECIPE_STEPS : ∃ u, mg "MOST_RECIPE_STEPS" = some u ∧ RelV (.int 480) u
  g_MOST_RECIPE_LETTERS : ∃ u, mg "MOST_RECIPE_LETTERS" = some u ∧ RelV (.int 6) u
  x_ZeroDivisor : mg "ZeroDivisor" = some (.ref A_ZeroDivisor)
  q_ZeroDivisor : PySem.W.excIn K A_ZeroDivisor [.type "ValueError", .type "Exception", .type "BaseException", .type "object"] "ValueError.__new__" = true
  k_ZeroDivisor : PySem.W.keepIn K (.ref A_ZeroDivisor) = true
  b_ZeroDivisor : PySem.W.subIn K (.ref A_ZeroDivisor) (.type "BaseException") = some true
  t_ZeroDivisor : PySem.W.typeIn K (.ref A_ZeroDivisor) = some (.type "type")
  x_InvalidNumber : mg "InvalidNumber" = some (.ref A_InvalidNumber)
  q_InvalidNumber : PySem.W.excIn K A_InvalidNumber [.type "ValueError", .type "Exception", .type "BaseException", .type "object"] "ValueError.__new__" = true
  k_InvalidNumber : PySem.W.keepIn K (.ref A_InvalidNumber) = true
  b_InvalidNumber : PySem.W.subIn K (.ref A_InvalidNumber) (.type "BaseException") = some true
  t_InvalidNumber : PySem.W.typeIn K (.ref A_InvalidNumber) = some (.type "type")
  x_WrongKind : mg "WrongKind" = some (.ref A_WrongKind)
  q_WrongKind : PySem.W.excIn K A_WrongKind [.type "ValueError", .type "Exception", .type "BaseException", .type "object"] "ValueError.__new__" = true
  k_WrongKind : PySem.W.keepIn K (.ref A_WrongKind) = true
  b_WrongKind : PySem.W.subIn K (.ref A_WrongKind) (.type "BaseException") = some true
  t_WrongKind : PySem.W.typeIn K (.ref A_WrongKind) = some (.type "type")
  x_InvalidRecipe : mg "InvalidRecipe" = some (.ref A_InvalidRecipe)
  sub_WrongKind : SubOk K mg (.ref A_WrongKind) subx_WrongKind
  sub_InvalidNumber : SubOk K mg (.ref A_InvalidNumber) subx_InvalidNumber
  sub_InvalidRecipe : SubOk K mg (.ref A_InvalidRecipe) subx_InvalidRecipe
  xf_line : XfsOk K mg ["InvalidRecipe"] "line"
  x_Ratio : mg "Ratio" = some (.ref A_Ratio)
  cl_Ratio : Cls K A_Ratio
  ty_Ratio : InsTy K A_Ratio
  kt_Ratio : PySem.W.kitOne K (.ref A_Ratio) (.ref A_Ratio) = some true
  x_Recipe : mg "Recipe" = some (.ref A_Recipe)
  cl_Recipe : Cls K A_Recipe
  ty_Recipe : InsTy K A_Recipe
  kt_Recipe : PySem.W.kitOne K (.ref A_Recipe) (.ref A_Recipe) = some true
  no_Ratio_num : NoAttr K A_Ratio "num"
  no_Ratio_den : NoAttr K A_Ratio "den"
  no_Recipe_letters : NoAttr K A_Recipe "letters"
  no_Recipe_steps : NoAttr K A_Recipe "steps"
  no_Recipe_kinds : NoAttr K A_Recipe "kinds"
  no_Recipe_result : NoAttr K A_Recipe "result"
  no_Recipe_kind : NoAttr K A_Recipe "kind"
section
variable {P : Program} {w : World} {K : PySem.W.Frag} {mg : Str → Option Value} {base : Heap} {A_Ratio A_Recipe A_InvalidRecipe A_ZeroDivisor A_InvalidNumber A_WrongKind a_NEW_WORDS a_PAIRS a__POWERS : Addr}
theorem sc_Ratio__init : FnScope ["self", "num", "den", "divisor"] ["self", "num", "den"] (defScope st_Ratio__init) := ⟨rfl, rfl, rfl, by decide +kernel, rfl, by decide +kernel, by decide +kernel⟩
theorem c_Ratio__init {f : Addr} {fd : FuncData} (T : Txt K mg A_Ratio A_Recipe A_InvalidRecipe A_ZeroDivisor A_InvalidNumber A_WrongKind a_NEW_WORDS a_PAIRS a__POWERS) {dvs : List V} {kws : List (Str × V)} (Fu : FunD K "__init__" "Ratio.__init__" (defArgs st_Ratio__init) (defBody st_Ratio__init) (defScope st_Ratio__init) dvs kws f fd) : FnOk P w K mg base (L2N.CX P w) 1 f fd ["self", "num", "den"] (spI ⟨K, mg, none, none⟩ "Ratio" m_Ratio__init) :=
  okID (k := 0) Fu sc_Ratio__init rfl rfl (by decide) fun x0 cdv A outer s H E hr => by exact ((dss_cons (ds_if (dt_cmp (opd_eq rfl hr.units) (de_var 2) de_int) (dss_one (ds_raiseN rfl (L2N.takes_of rfl rfl rfl rfl) (L2N.pmk_own PySem.F.excBase_ValueError T.q_ZeroDivisor T.x_ZeroDivisor T.k_ZeroDivisor (raises_own T.b_ZeroDivisor T.t_ZeroDivisor) (by exact rfl)) (fun _ _ _ hq => hq _ T.x_ZeroDivisor))) dss_nil)
    (dss_cons (ds_set 3 sc_Ratio__init.nd (de_cbF cbd_gcd rfl T.b_gcd (da_cons (de_var 1) (da_cons (de_var 2) da_nil))))
    (dss_cons (ds_if (dt_cmp opd_lt (de_var 2) de_int) (dss_one (ds_set 3 sc_Ratio__init.nd (de_neg (de_var 3)))) dss_nil)
    (dss_cons (ds_fld 0 ⟨rfl, rfl⟩ (fldOk1 T.x_Ratio T.cl_Ratio T.no_Ratio_num) (pv 0) (de_bin opd_fdivZ (de_var 1) (de_var 3)))
    (dss_one (ds_fld 0 ⟨rfl, rfl⟩ (fldOk1 T.x_Ratio T.cl_Ratio T.no_Ratio_den) (pv 0) (de_bin opd_fdivZ (de_var 2) (de_var 3)))))))))
theorem sc_Ratio__eq : FnScope ["self", "other"] ["self", "other"] (defScope st_Ratio__eq) := ⟨rfl, rfl, rfl, by decide +kernel, rfl, by decide +kernel, by decide +kernel⟩
theorem c_Ratio__eq {f : Addr} {fd : FuncData} (T : Txt K mg A_Ratio A_Recipe A_InvalidRecipe A_ZeroDivisor A_InvalidNumber A_WrongKind a_NEW_WORDS a_PAIRS a__POWERS) (Fu : Fun K "__eq__" "Ratio.__eq__" st_Ratio__eq f fd) : FnOk P w K mg base (L2.CX P w) 1 f fd ["self", "other"] (spD ⟨K, mg, none, none⟩ m_Ratio__eq) :=
  okD (k := 0) Fu sc_Ratio__eq rfl rfl (by decide) fun cdv A outer s H E hr => by exact ((dss_one (ds_ret (de_and (de_isA ⟨rfl, rfl⟩ (.own _) (T := "Ratio") (isa_own T.x_Ratio T.ty_Ratio T.kt_Ratio) rfl T.n_isinstance (pe_glob rfl T.x_Ratio rfl) (de_var 1)) (de_and (de_cmp (opd_eq rfl hr.units) (de_fld ⟨rfl, rfl⟩ (fldOk1 T.x_Ratio T.cl_Ratio T.no_Ratio_num) (de_var 0)) (de_fld ⟨rfl, rfl⟩ (fldOk1 T.x_Ratio T.cl_Ratio T.no_Ratio_num) (de_var 1))) (de_one (de_cmp (opd_eq rfl hr.units) (de_fld ⟨rfl, rfl⟩ (fldOk1 T.x_Ratio T.cl_Ratio T.no_Ratio_den) (de_var 0)) (de_fld ⟨rfl, rfl⟩ (fldOk1 T.x_Ratio T.cl_Ratio T.no_Ratio_den) (de_var 1)))))))))
theorem sc_Ratio__str : FnScope ["self"] ["self"] (defScope st_Ratio__str) := ⟨rfl, rfl, rfl, by decide +kernel, rfl, by decide +kernel, by decide +kernel⟩
theorem c_Ratio__str {f : Addr} {fd : FuncData} (T : Txt K mg A_Ratio A_Recipe A_InvalidRecipe A_ZeroDivisor A_InvalidNumber A_WrongKind a_NEW_WORDS a_PAIRS a__POWERS) (Fu : Fun K "__str__" "Ratio.__str__" st_Ratio__str f fd) : FnOk P w K mg base (L2.CX P w) 1 f fd ["self"] (spD ⟨K, mg, none, none⟩ m_Ratio__str) :=
  okD (k := 0) Fu sc_Ratio__str rfl rfl (by decide) fun cdv A outer s H E hr => by exact ((dss_cons (ds_if (dt_cmp (opd_eq rfl hr.units) (de_fld ⟨rfl, rfl⟩ (fldOk1 T.x_Ratio T.cl_Ratio T.no_Ratio_den) (de_var 0)) de_int) (dss_one (ds_ret (de_cty cbd_strT rfl T.n_str (by decide +kernel) (da_cons (de_fld ⟨rfl, rfl⟩ (fldOk1 T.x_Ratio T.cl_Ratio T.no_Ratio_num) (de_var 0)) da_nil)))) dss_nil)
    (dss_one (ds_ret (de_joined (.cons (de_fmt (de_fld ⟨rfl, rfl⟩ (fldOk1 T.x_Ratio T.cl_Ratio T.no_Ratio_num) (de_var 0))) (.cons de_str (.cons (de_fmt (de_fld ⟨rfl, rfl⟩ (fldOk1 T.x_Ratio T.cl_Ratio T.no_Ratio_den) (de_var 0))) .nil))))))))
theorem sc_natural : FnScope ["digits", "char"] ["digits"] (defScope st_natural) := ⟨rfl, rfl, rfl, by decide +kernel, rfl, by decide +kernel, by decide +kernel⟩
theorem c_natural {f : Addr} {fd : FuncData} (T : Txt K mg A_Ratio A_Recipe A_InvalidRecipe A_ZeroDivisor A_InvalidNumber A_WrongKind a_NEW_WORDS a_PAIRS a__POWERS) (Fu : Fun K "natural" "natural" st_natural f fd) : FnOk P w K mg base (L2N.CX P w) 1 f fd ["digits"] (spD ⟨K, mg, none, none⟩ m_natural) :=
  okD (k := 0) Fu sc_natural rfl rfl (by decide) fun cdv A outer s H E hr => by exact ((dss_cons (ds_if (L2.PW.pt (dw_or (dt_cmp (opd_eq rfl hr.units) (de_var 0) de_str) (dw_or1 (dt_cmp opd_gt (de_cb cbd_lenT rfl T.n_len (by decide +kernel) (da_cons (de_var 0) da_nil)) (de_cG rfl T.g_MOST_DIGITS fun _ => rfl))))) (dss_one (ds_raiseN rfl (L2N.takes_of rfl rfl rfl rfl) (L2N.pmk_own PySem.F.excBase_ValueError T.q_InvalidNumber T.x_InvalidNumber T.k_InvalidNumber (raises_own T.b_InvalidNumber T.t_InvalidNumber) (by exact rfl)) (fun _ _ _ hq => hq _ T.x_InvalidNumber))) dss_nil)
    (dss_cons (ds_if (L2.PW.pt (dw_and (dt_cmp (opd_eq rfl hr.units) (de_ix ixd_T (de_var 0) de_int) de_str) (dw_and1 (dt_cmp opd_gt (de_cb cbd_lenT rfl T.n_len (by decide +kernel) (da_cons (de_var 0) da_nil)) de_int)))) (dss_one (ds_raiseN rfl (L2N.takes_of rfl rfl rfl rfl) (L2N.pmk_own PySem.F.excBase_ValueError T.q_InvalidNumber T.x_InvalidNumber T.k_InvalidNumber (raises_own T.b_InvalidNumber T.t_InvalidNumber) (by exact rfl)) (fun _ _ _ hq => hq _ T.x_InvalidNumber))) dss_nil)
    (dss_cons (ds_for (passes_of rfl) rfl (pi_str (de_var 0)) tri_txt (pg_name sc_natural.nd rfl (by first | exact Or.inl rfl | exact Or.inr rfl)) (trg_name 1) (dss_one (ds_if (dt_cmp opd_notInT (de_var 1) (de_cG rfl T.g_DIGITS fun _ => rfl)) (dss_one (ds_raiseN rfl (L2N.takes_of rfl rfl rfl rfl) (L2N.pmk_own PySem.F.excBase_ValueError T.q_InvalidNumber T.x_InvalidNumber T.k_InvalidNumber (raises_own T.b_InvalidNumber T.t_InvalidNumber) (by exact rfl)) (fun _ _ _ hq => hq _ T.x_InvalidNumber))) dss_nil)))
    (dss_one (ds_ret (de_cty cbd_intS rfl T.n_int (by decide +kernel) (da_cons (de_var 0) da_nil))))))))
theorem sc_step_kind : FnScope ["step", "kinds", "word", "first", "second"] ["step", "kinds"] (defScope st_step_kind) := ⟨rfl, rfl, rfl, by decide +kernel, rfl, by decide +kernel, by decide +kernel⟩
theorem c_step_kind {f : Addr} {fd : FuncData} (T : Txt K mg A_Ratio A_Recipe A_InvalidRecipe A_ZeroDivisor A_InvalidNumber A_WrongKind a_NEW_WORDS a_PAIRS a__POWERS) (Fu : Fun K "step_kind" "step_kind" st_step_kind f fd) : FnOk P w K mg base (L2N.CX P w) 1 f fd ["step", "kinds"] (spD ⟨K, mg, none, none⟩ m_step_kind) :=
  okD (k := 0) Fu sc_step_kind rfl rfl (by decide) fun cdv A outer s H E hr => by exact ((dss_cons (ds_set 2 sc_step_kind.nd (de_ix (ixd rfl) (de_var 0) de_int))
    (dss_cons (ds_if (L2.PW.pt (dw_or (dt_cmp (opd_eq rfl hr.units) (de_var 2) de_str) (dw_or1 (dt_cmp (opd_eq rfl hr.units) (de_var 2) de_str)))) (dss_one (ds_ret de_str)) dss_nil)
    (dss_cons (ds_if (dt_cmp (opd_eq rfl hr.units) (de_var 2) de_str) (dss_one (ds_ret de_str)) dss_nil)
    (dss_cons (ds_if (dt_cmp (opd_eq rfl hr.units) (de_var 2) de_str) (dss_one (ds_ret (de_ix (ixd rfl) (de_var 1) (de_ix (ixd rfl) (de_var 0) de_int)))) dss_nil)
    (dss_cons (ds_if (dt_cmp (opd_eq rfl hr.units) (de_var 2) de_str) (dss_one (ds_ret (de_ix (ixd rfl) (de_var 1) (de_ix (ixd rfl) (de_var 0) de_int)))) dss_nil)
    (dss_cons (ds_if (dt_cmp (opd_eq rfl hr.units) (de_var 2) de_str) (dss_cons (ds_if (dt_cmp (opd_ne rfl hr.units) (de_ix (ixd rfl) (de_var 1) (de_ix (ixd rfl) (de_var 0) de_int)) de_str) (dss_one (ds_raiseN rfl (L2N.takes_of rfl rfl rfl rfl) (L2N.pmk_own PySem.F.excBase_ValueError T.q_WrongKind T.x_WrongKind T.k_WrongKind (raises_own T.b_WrongKind T.t_WrongKind) (by exact rfl)) (fun _ _ _ hq => hq _ T.x_WrongKind))) dss_nil)
    (dss_one (ds_ret de_str))) dss_nil)
    (dss_cons (ds_set 3 sc_step_kind.nd (de_ix (ixd rfl) (de_var 1) (de_ix (ixd rfl) (de_var 0) de_int)))
    (dss_cons (ds_set 4 sc_step_kind.nd (de_ix (ixd rfl) (de_var 1) (de_ix (ixd rfl) (de_var 0) de_int)))
    (dss_cons (ds_if (dt_cmp (opd_eq rfl hr.units) (de_var 2) de_str) (dss_one (ds_ret (de_if (dt_cmp (opd_eq rfl hr.units) (de_var 3) (de_var 4)) (de_var 3) de_str))) dss_nil)
    (dss_cons (ds_if (dt_cmp (opd_ne rfl hr.units) (de_var 3) (de_var 4)) (dss_one (ds_raiseN rfl (L2N.takes_of rfl rfl rfl rfl) (L2N.pmk_own PySem.F.excBase_ValueError T.q_WrongKind T.x_WrongKind T.k_WrongKind (raises_own T.b_WrongKind T.t_WrongKind) (by exact rfl)) (fun _ _ _ hq => hq _ T.x_WrongKind))) dss_nil)
    (dss_one (ds_ret (de_var 3))))))))))))))
theorem sc_Recipe__eq : FnScope ["self", "other"] ["self", "other"] (defScope st_Recipe__eq) := ⟨rfl, rfl, rfl, by decide +kernel, rfl, by decide +kernel, by decide +kernel⟩
theorem c_Recipe__eq {f : Addr} {fd : FuncData} (T : Txt K mg A_Ratio A_Recipe A_InvalidRecipe A_ZeroDivisor A_InvalidNumber A_WrongKind a_NEW_WORDS a_PAIRS a__POWERS) {f_Ratio__eq : Addr} {fd_Ratio__eq : FuncData} (C_Ratio__eq : CalO P w K mg base 1 "Ratio" "__eq__" ["self", "other"] m_Ratio__eq A_Ratio f_Ratio__eq fd_Ratio__eq) (Fu : Fun K "__eq__" "Recipe.__eq__" st_Recipe__eq f fd) : FnOk P w K mg base (L2.CX P w) 4 f fd ["self", "other"] (spD ⟨K, mg, none, none⟩ m_Recipe__eq) :=
  okD (k := 3) Fu sc_Recipe__eq rfl rfl (by decide) fun cdv A outer s H E hr => by exact ((dss_cons (ds_if (dt_not (dt_tru ⟨rfl, rfl⟩ (de_isA ⟨rfl, rfl⟩ (.own _) (T := "Recipe") (isa_own T.x_Recipe T.ty_Recipe T.kt_Recipe) rfl T.n_isinstance (pe_glob rfl T.x_Recipe rfl) (de_var 1)))) (dss_one (ds_ret de_bl)) dss_nil)
    (dss_one (ds_ret (de_and (de_cmp (opd_eq rfl hr.units) (de_fld ⟨rfl, rfl⟩ (fldOk1 T.x_Recipe T.cl_Recipe T.no_Recipe_letters) (de_var 0)) (de_fld ⟨rfl, rfl⟩ (fldOk1 T.x_Recipe T.cl_Recipe T.no_Recipe_letters) (de_var 1))) (de_and (de_cmpX (opd_eq rfl hr.units) (ops_eqX C_Ratio__eq ⟨rfl, rfl⟩ (hr.mono (by decide))) (de_fld ⟨rfl, rfl⟩ (fldOk1 T.x_Recipe T.cl_Recipe T.no_Recipe_steps) (de_var 0)) (de_fld ⟨rfl, rfl⟩ (fldOk1 T.x_Recipe T.cl_Recipe T.no_Recipe_steps) (de_var 1))) (de_one (de_cmp (opd_eq rfl hr.units) (de_fld ⟨rfl, rfl⟩ (fldOk1 T.x_Recipe T.cl_Recipe T.no_Recipe_result) (de_var 0)) (de_fld ⟨rfl, rfl⟩ (fldOk1 T.x_Recipe T.cl_Recipe T.no_Recipe_result) (de_var 1))))))))))
theorem sc_Recipe__is_plain : FnScope ["self", "step"] ["self"] (defScope st_Recipe__is_plain) := ⟨rfl, rfl, rfl, by decide +kernel, rfl, by decide +kernel, by decide +kernel⟩
theorem c_Recipe__is_plain {f : Addr} {fd : FuncData} (T : Txt K mg A_Ratio A_Recipe A_InvalidRecipe A_ZeroDivisor A_InvalidNumber A_WrongKind a_NEW_WORDS a_PAIRS a__POWERS) (Fu : Fun K "is_plain" "Recipe.is_plain" st_Recipe__is_plain f fd) : FnOk P w K mg base (L2.CX P w) 1 f fd ["self"] (spD ⟨K, mg, none, none⟩ m_Recipe__is_plain) :=
  okD (k := 0) Fu sc_Recipe__is_plain rfl rfl (by decide) fun cdv A outer s H E hr => by exact ((dss_one (ds_ret (de_not (de_cb (cbd_any rfl) rfl T.n_any (by decide +kernel) (da_cons (de_lc rfl sc_Recipe__is_plain.nd (pi_seq (de_fld ⟨rfl, rfl⟩ (fldOk1 T.x_Recipe T.cl_Recipe T.no_Recipe_steps) (de_var 0))) (tri_seq ⟨rfl, rfl⟩) (blkOk_by (own := [("step", 1)]) (by exact rfl)) (fun _ _ _ _ _ => (pg_name sc_Recipe__is_plain.nd rfl (by first | exact Or.inl rfl | exact Or.inr rfl))) (trg_name 1) (gl_name (by decide)) (fun _ _ _ _ _ => dts_nil) (fun _ _ _ _ _ => (de_cmp (opd_in rfl) (de_ix (ixd rfl) (de_var 1) de_int) (de_c (pe_glob (v := .ref _) rfl T.mg_NEW_WORDS rfl) T.rep_NEW_WORDS)))) da_nil))))))
theorem sc_kind_of_step : FnScope ["step", "kinds", "word"] ["step", "kinds"] (defScope st_kind_of_step) := ⟨rfl, rfl, rfl, by decide +kernel, rfl, by decide +kernel, by decide +kernel⟩
theorem c_kind_of_step {f : Addr} {fd : FuncData} (T : Txt K mg A_Ratio A_Recipe A_InvalidRecipe A_ZeroDivisor A_InvalidNumber A_WrongKind a_NEW_WORDS a_PAIRS a__POWERS) {f_step_kind : Addr} {fd_step_kind : FuncData} (C_step_kind : Cal P w K mg base (L2N.CX P w) 1 "step_kind" ["step", "kinds"] m_step_kind f_step_kind fd_step_kind) (Fu : Fun K "kind_of_step" "kind_of_step" st_kind_of_step f fd) : FnOk P w K mg base (L2N.CX P w) 2 f fd ["step", "kinds"] (spD ⟨K, mg, none, none⟩ m_kind_of_step) :=
  okD (k := 1) Fu sc_kind_of_step rfl rfl (by decide) fun cdv A outer s H E hr => by exact ((dss_cons (ds_set 2 sc_kind_of_step.nd (de_ix (ixd rfl) (de_var 0) de_int))
    (dss_cons (ds_if (dt_cmp (opd_notIn rfl) (de_var 2) (de_c (pe_glob (v := .ref _) rfl T.mg_NEW_WORDS rfl) T.rep_NEW_WORDS)) (dss_one (ds_ret (de_callC C_step_kind ⟨rfl, rfl⟩ (hr.mono (by decide)) rfl (letsN (L2N.takes_of rfl rfl rfl rfl)) (da_cons (de_var 0) (da_cons (de_var 1) da_nil))))) dss_nil)
    (dss_cons (ds_if (dt_cmp (opd_ne rfl hr.units) (de_ix (ixd rfl) (de_var 1) (de_ix (ixd rfl) (de_var 0) de_int)) de_str) (dss_one (ds_raiseN rfl (L2N.takes_of rfl rfl rfl rfl) (L2N.pmk_own PySem.F.excBase_ValueError T.q_WrongKind T.x_WrongKind T.k_WrongKind (raises_own T.b_WrongKind T.t_WrongKind) (by exact rfl)) (fun _ _ _ hq => hq _ T.x_WrongKind))) dss_nil)
    (dss_one (ds_ret (de_if (dt_cmp (opd_eq rfl hr.units) (de_var 2) de_str) de_str de_str)))))))
theorem sc_show_recipe : FnScope ["recipe", "lines", "step", "part"] ["recipe"] (defScope st_show_recipe) := ⟨rfl, rfl, rfl, by decide +kernel, rfl, by decide +kernel, by decide +kernel⟩
theorem c_show_recipe {f : Addr} {fd : FuncData} (T : Txt K mg A_Ratio A_Recipe A_InvalidRecipe A_ZeroDivisor A_InvalidNumber A_WrongKind a_NEW_WORDS a_PAIRS a__POWERS) {f_Ratio__str : Addr} {fd_Ratio__str : FuncData} (C_Ratio__str : CalO P w K mg base 1 "Ratio" "__str__" ["self"] m_Ratio__str A_Ratio f_Ratio__str fd_Ratio__str) (Fu : Fun K "show_recipe" "show_recipe" st_show_recipe f fd) : FnOk P w K mg base (L2.CX P w) 4 f fd ["recipe"] (spD ⟨K, mg, none, none⟩ m_show_recipe) :=
  okD (k := 3) Fu sc_show_recipe rfl rfl (by decide) fun cdv A outer s H E hr => by exact ((dss_cons (ds_set 1 sc_show_recipe.nd (de_lst (da_cons (de_bin (opd_add rfl) de_str (de_if (dt_tru ⟨rfl, rfl⟩ (de_fld ⟨rfl, rfl⟩ (fldOk1 T.x_Recipe T.cl_Recipe T.no_Recipe_letters) (de_var 0))) (de_fld ⟨rfl, rfl⟩ (fldOk1 T.x_Recipe T.cl_Recipe T.no_Recipe_letters) (de_var 0)) de_str)) da_nil)))
    (dss_cons (ds_for (passes_of rfl) rfl (pi_seq (de_fld ⟨rfl, rfl⟩ (fldOk1 T.x_Recipe T.cl_Recipe T.no_Recipe_steps) (de_var 0))) (tri_seq ⟨rfl, rfl⟩) (pg_name sc_show_recipe.nd rfl (by first | exact Or.inl rfl | exact Or.inr rfl)) (trg_name 2) (dss_one (ds_drop (de_append 1 (da_cons (de_join ⟨rfl, rfl⟩ de_str (de_lc rfl sc_show_recipe.nd (pi_seq (de_var 2)) (tri_seq ⟨rfl, rfl⟩) (blkOk_by (own := [("part", 3)]) (by exact rfl)) (fun _ _ _ _ _ => (pg_name sc_show_recipe.nd rfl (by first | exact Or.inl rfl | exact Or.inr rfl))) (trg_name 3) (gl_name (by decide)) (fun _ _ _ _ _ => dts_nil) (fun _ _ _ _ _ => (de_cbS (CBS.or (CBD.strong cbd_strT) (cbs_strOwn C_Ratio__str ⟨rfl, rfl⟩ (hr.mono (by decide)))) rfl T.n_str (by decide +kernel) (da_cons (de_var 3) da_nil))))) da_nil) (pv 1)))))
    (dss_cons (ds_drop (de_append 1 (da_cons (de_bin (opd_add rfl) de_str (de_cty cbd_strT rfl T.n_str (by decide +kernel) (da_cons (de_fld ⟨rfl, rfl⟩ (fldOk1 T.x_Recipe T.cl_Recipe T.no_Recipe_result) (de_var 0)) da_nil))) da_nil) (pv 1)))
    (dss_one (ds_ret (de_join ⟨rfl, rfl⟩ de_str (de_var 1))))))))
theorem sc__read_letters : FnScope ["line", "words", "letters", "letter"] ["line"] (defScope st__read_letters) := ⟨rfl, rfl, rfl, by decide +kernel, rfl, by decide +kernel, by decide +kernel⟩
theorem c__read_letters {f : Addr} {fd : FuncData} (T : Txt K mg A_Ratio A_Recipe A_InvalidRecipe A_ZeroDivisor A_InvalidNumber A_WrongKind a_NEW_WORDS a_PAIRS a__POWERS) {fI_InvalidRecipe : Addr} {fd_InvalidRecipe : FuncData} (C_InvalidRecipe : CalX P w K mg base "InvalidRecipe" "line" "line" A_InvalidRecipe fI_InvalidRecipe fd_InvalidRecipe) (Fu : Fun K "_read_letters" "_read_letters" st__read_letters f fd) : FnOk P w K mg base (L2.CX P w) 3 f fd ["line"] (spD ⟨K, mg, none, none⟩ m__read_letters) :=
  okD (k := 2) Fu sc__read_letters rfl rfl (by decide) fun cdv A outer s H E hr => by exact ((dss_cons (ds_set 1 sc__read_letters.nd (de_split (de_var 0) de_str))
    (dss_cons (ds_if (L2.PW.pt (dw_or (dt_cmp (opd_ne rfl hr.units) (de_cb (cbd_len rfl) rfl T.n_len (by decide +kernel) (da_cons (de_var 1) da_nil)) de_int) (dw_or1 (dt_cmp (opd_ne rfl hr.units) (de_ix (ixd rfl) (de_var 1) de_int) de_str)))) (dss_one (ds_rzX C_InvalidRecipe ⟨rfl, rfl⟩ rfl (takes_of rfl rfl rfl rfl) (hr.mono (by decide)) rfl de_int)) dss_nil)
    (dss_cons (ds_set 2 sc__read_letters.nd (de_ix (ixd rfl) (de_var 1) de_int))
    (dss_cons (ds_if (dt_cmp (opd_eq rfl hr.units) (de_var 2) de_str) (dss_one (ds_ret de_str)) dss_nil)
    (dss_cons (ds_if (L2.PW.pt (dw_or (dt_not (dt_chain opd_le opd_le de_int (de_cb cbd_lenT rfl T.n_len (by decide +kernel) (da_cons (de_var 2) da_nil)) (de_cG rfl T.g_MOST_RECIPE_LETTERS fun _ => rfl))) (dw_or1 (dt_cmp opd_lt (de_lenSet rfl rfl T.n_len rfl T.n_set (de_var 2)) (de_cb cbd_lenT rfl T.n_len (by decide +kernel) (da_cons (de_var 2) da_nil)))))) (dss_one (ds_rzX C_InvalidRecipe ⟨rfl, rfl⟩ rfl (takes_of rfl rfl rfl rfl) (hr.mono (by decide)) rfl de_int)) dss_nil)
    (dss_cons (ds_for (passes_of rfl) rfl (pi_str (de_var 2)) tri_txt (pg_name sc__read_letters.nd rfl (by first | exact Or.inl rfl | exact Or.inr rfl)) (trg_name 3) (dss_one (ds_if (dt_cmp opd_notInT (de_var 3) (de_cG rfl T.g_LOWER_CASE fun _ => rfl)) (dss_one (ds_rzX C_InvalidRecipe ⟨rfl, rfl⟩ rfl (takes_of rfl rfl rfl rfl) (hr.mono (by decide)) rfl de_int)) dss_nil)))
    (dss_one (ds_ret (de_var 2))))))))))
theorem sc__read_index : FnScope ["words", "steps", "number", "at"] ["words", "steps", "number"] (defScope st__read_index) := ⟨rfl, rfl, rfl, by decide +kernel, rfl, by decide +kernel, by decide +kernel⟩
theorem c__read_index {f : Addr} {fd : FuncData} (T : Txt K mg A_Ratio A_Recipe A_InvalidRecipe A_ZeroDivisor A_InvalidNumber A_WrongKind a_NEW_WORDS a_PAIRS a__POWERS) {fI_InvalidRecipe : Addr} {fd_InvalidRecipe : FuncData} (C_InvalidRecipe : CalX P w K mg base "InvalidRecipe" "line" "line" A_InvalidRecipe fI_InvalidRecipe fd_InvalidRecipe) (Fu : Fun K "_read_index" "_read_index" st__read_index f fd) : FnOk P w K mg base (L2.CX P w) 3 f fd ["words", "steps", "number"] (spD ⟨K, mg, none, none⟩ m__read_index) :=
  okD (k := 2) Fu sc__read_index rfl rfl (by decide) fun cdv A outer s H E hr => by exact ((dss_cons (ds_if (dt_cmp (opd_ne rfl hr.units) (de_cb (cbd_len rfl) rfl T.n_len (by decide +kernel) (da_cons (de_var 0) da_nil)) de_int) (dss_one (ds_rzX C_InvalidRecipe ⟨rfl, rfl⟩ rfl (takes_of rfl rfl rfl rfl) (hr.mono (by decide)) rfl (de_var 2))) dss_nil)
    (dss_cons (ds_for (passes_of rfl) rfl (pi_range1 rfl T.n_range (da_cons (de_cb (cbd_len rfl) rfl T.n_len (by decide +kernel) (da_cons (de_var 1) da_nil)) da_nil)) tri_r1 (pg_name sc__read_index.nd rfl (by first | exact Or.inl rfl | exact Or.inr rfl)) (trg_name 3) (dss_one (ds_if (dt_cmp (opd_eq rfl hr.units) (de_cty cbd_strT rfl T.n_str (by decide +kernel) (da_cons (de_var 3) da_nil)) (de_ix (ixd rfl) (de_var 0) de_int)) (dss_one (ds_ret (de_var 3))) dss_nil)))
    (dss_one (ds_rzX C_InvalidRecipe ⟨rfl, rfl⟩ rfl (takes_of rfl rfl rfl rfl) (hr.mono (by decide)) rfl (de_var 2))))))
theorem sc__law_cell : FnScope ["script", "k"] ["script", "k"] (defScope st__law_cell) := ⟨rfl, rfl, rfl, by decide +kernel, rfl, by decide +kernel, by decide +kernel⟩
theorem c__law_cell {f : Addr} {fd : FuncData} (T : Txt K mg A_Ratio A_Recipe A_InvalidRecipe A_ZeroDivisor A_InvalidNumber A_WrongKind a_NEW_WORDS a_PAIRS a__POWERS) (Fu : Fun K "_law_cell" "_law_cell" st__law_cell f fd) : FnOk P w K mg base (L2.CX P w) 1 f fd ["script", "k"] (spD ⟨K, mg, none, none⟩ m__law_cell) :=
  okD (k := 0) Fu sc__law_cell rfl rfl (by decide) fun cdv A outer s H E hr => by exact ((dss_cons (ds_if (dt_cmp opd_lt (de_var 1) (de_cb (cbd_len rfl) rfl T.n_len (by decide +kernel) (da_cons (de_var 0) da_nil))) (dss_one (ds_ret (de_ix (ixd rfl) (de_var 0) (de_var 1)))) dss_nil)
    (dss_one (ds_ret (de_bin (opd_add rfl) (de_bin (opd_add rfl) (de_bin opd_mul de_int (de_var 1)) (de_bin opd_mul de_int (de_cb (cbd_len rfl) rfl T.n_len (by decide +kernel) (da_cons (de_var 0) da_nil)))) de_int)))))
theorem sc__law_number : FnScope ["script", "k", "number"] ["script", "k"] (defScope st__law_number) := ⟨rfl, rfl, rfl, by decide +kernel, rfl, by decide +kernel, by decide +kernel⟩
theorem c__law_number {f : Addr} {fd : FuncData} (T : Txt K mg A_Ratio A_Recipe A_InvalidRecipe A_ZeroDivisor A_InvalidNumber A_WrongKind a_NEW_WORDS a_PAIRS a__POWERS) {f__law_cell : Addr} {fd__law_cell : FuncData} (C__law_cell : Cal P w K mg base (L2.CX P w) 1 "_law_cell" ["script", "k"] m__law_cell f__law_cell fd__law_cell) (Fu : Fun K "_law_number" "_law_number" st__law_number f fd) : FnOk P w K mg base (L2.CX P w) 2 f fd ["script", "k"] (spD ⟨K, mg, none, none⟩ m__law_number) :=
  okD (k := 1) Fu sc__law_number rfl rfl (by decide) fun cdv A outer s H E hr => by exact ((dss_cons (ds_set 2 sc__law_number.nd (de_bin opd_mod (de_cty cbd_int rfl T.n_int (by decide +kernel) (da_cons (de_cb cbd_abs rfl T.n_abs (by decide +kernel) (da_cons (de_callC C__law_cell ⟨rfl, rfl⟩ (hr.mono (by decide)) rfl (lets (takes_of rfl rfl rfl rfl)) (da_cons (de_var 0) (da_cons (de_var 1) da_nil))) da_nil)) da_nil)) (de_bin opd_pow de_int de_int)))
    (dss_cons (ds_if (dt_cmp opd_lt (de_var 2) (de_bin opd_pow de_int de_int)) (dss_cons (ds_set 2 sc__law_number.nd (de_bin (opd_add rfl) (de_bin opd_mul (de_bin (opd_add rfl) (de_var 2) de_int) (de_bin (opd_add rfl) (de_var 2) de_int)) (de_bin opd_mul de_int (de_var 1))))
    (dss_cons (ds_set 2 sc__law_number.nd (de_bin (opd_add rfl) (de_bin opd_mul (de_var 2) (de_bin (opd_add rfl) (de_bin opd_mod (de_cty cbd_int rfl T.n_int (by decide +kernel) (da_cons (de_var 2) da_nil)) de_int) de_int)) (de_bin opd_fdiv (de_var 2) de_int)))
    (dss_one (ds_set 2 sc__law_number.nd (de_bin opd_mod (de_cty cbd_int rfl T.n_int (by decide +kernel) (da_cons (de_bin opd_mul (de_var 2) (de_bin (opd_add rfl) (de_bin opd_mod (de_cty cbd_int rfl T.n_int (by decide +kernel) (da_cons (de_var 2) da_nil)) de_int) de_int)) da_nil)) (de_bin opd_pow de_int de_int)))))) dss_nil)
    (dss_one (ds_ret (de_var 2))))))
theorem sc__law_step : FnScope ["pick", "first", "second", "factor", "kinds", "grades", "most", "size", "kind", "grade"] ["pick", "first", "second", "factor", "kinds", "grades", "most", "size"] (defScope st__law_step) := ⟨rfl, rfl, rfl, by decide +kernel, rfl, by decide +kernel, by decide +kernel⟩
theorem c__law_step {f : Addr} {fd : FuncData} (T : Txt K mg A_Ratio A_Recipe A_InvalidRecipe A_ZeroDivisor A_InvalidNumber A_WrongKind a_NEW_WORDS a_PAIRS a__POWERS) (Fu : Fun K "_law_step" "_law_step" st__law_step f fd) : FnOk P w K mg base (L2.CX P w) 1 f fd ["pick", "first", "second", "factor", "kinds", "grades", "most", "size"] (spD ⟨K, mg, none, none⟩ m__law_step) :=
  okD (k := 0) Fu sc__law_step rfl rfl (by decide) fun cdv A outer s H E hr => by exact ((dss_cons (ds_set 8 sc__law_step.nd (de_ix (ixd rfl) (de_var 4) (de_var 1)))
    (dss_cons (ds_set 9 sc__law_step.nd (de_ix (ixd rfl) (de_var 5) (de_var 1)))
    (dss_cons (ds_if (L2.PW.pt (dw_and (dt_cmp opd_lt (de_var 0) de_int) (dw_and1 (dt_cmp opd_le (de_bin (opd_add rfl) (de_var 9) (de_ix (ixd rfl) (de_var 5) (de_var 2))) (de_var 6))))) (dss_cons (ds_if (dt_cmp (opd_eq rfl hr.units) (de_var 8) (de_ix (ixd rfl) (de_var 4) (de_var 2))) (dss_one (ds_ret (de_tup (da_cons (de_tup (da_cons de_str (da_cons (de_var 1) (da_cons (de_var 2) da_nil)))) (da_cons (de_var 8) (da_cons (de_bin (opd_add rfl) (de_var 9) (de_ix (ixd rfl) (de_var 5) (de_var 2))) da_nil)))))) dss_nil)
    (dss_one (ds_ret (de_tup (da_cons (de_tup (da_cons de_str (da_cons (de_var 1) (da_cons (de_var 2) da_nil)))) (da_cons de_str (da_cons (de_bin (opd_add rfl) (de_var 9) (de_ix (ixd rfl) (de_var 5) (de_var 2))) da_nil))))))) dss_nil)
    (dss_cons (ds_if (L2.PW.pt (dw_and (dt_cmp (opd_in rfl) (de_var 0) (de_lst (da_cons de_int (da_cons de_int (da_cons de_int da_nil))))) (dw_and1 (dt_cmp (opd_eq rfl hr.units) (de_var 8) (de_ix (ixd rfl) (de_var 4) (de_var 2)))))) (dss_one (ds_ret (de_tup (da_cons (de_tup (da_cons (de_ix (ixd rfl) (de_lst (da_cons de_str (da_cons de_str (da_cons de_str da_nil)))) (de_bin opd_sub (de_var 0) de_int)) (da_cons (de_var 1) (da_cons (de_var 2) da_nil)))) (da_cons (de_var 8) (da_cons (de_cb (cbd_max2 rfl) rfl T.n_max (by decide +kernel) (da_cons (de_var 9) (da_cons (de_ix (ixd rfl) (de_var 5) (de_var 2)) da_nil))) da_nil)))))) dss_nil)
    (dss_cons (ds_if (L2.PW.pt (dw_and (dt_cmp (opd_eq rfl hr.units) (de_var 0) de_int) (dw_and1 (dt_cmp (opd_eq rfl hr.units) (de_var 8) de_str)))) (dss_one (ds_ret (de_tup (da_cons (de_tup (da_cons de_str (da_cons (de_var 1) da_nil))) (da_cons de_str (da_cons (de_var 9) da_nil)))))) dss_nil)
    (dss_cons (ds_if (L2.PW.pt (dw_and (dt_cmp (opd_eq rfl hr.units) (de_var 0) de_int) (dw_and1 (dt_cmp (opd_eq rfl hr.units) (de_var 8) de_str)))) (dss_one (ds_ret (de_tup (da_cons (de_tup (da_cons de_str (da_cons (de_var 1) da_nil))) (da_cons de_str (da_cons (de_var 9) da_nil)))))) dss_nil)
    (dss_cons (ds_if (L2.PW.pt (dw_and (dt_cmp (opd_eq rfl hr.units) (de_var 0) de_int) (dw_and (dt_cmp (opd_eq rfl hr.units) (de_var 8) de_str) (dw_and1 (dt_chain opd_lt opd_le de_int (de_bin opd_mul (de_var 7) (de_var 9)) (de_var 6)))))) (dss_one (ds_ret (de_tup (da_cons (de_tup (da_cons de_str (da_cons (de_var 1) da_nil))) (da_cons de_str (da_cons (de_bin opd_mul (de_var 7) (de_var 9)) da_nil)))))) dss_nil)
    (dss_cons (ds_if (L2.PW.pt (dw_and (dt_cmp (opd_eq rfl hr.units) (de_var 0) de_int) (dw_and (dt_cmp (opd_eq rfl hr.units) (de_var 8) de_str) (dw_and1 (dt_chain opd_lt opd_le de_int (de_bin opd_mul (de_var 7) (de_var 9)) (de_var 6)))))) (dss_one (ds_ret (de_tup (da_cons (de_tup (da_cons de_str (da_cons (de_var 1) da_nil))) (da_cons de_str (da_cons (de_bin opd_mul (de_var 7) (de_var 9)) da_nil)))))) dss_nil)
    (dss_cons (ds_if (dt_cmp (opd_eq rfl hr.units) (de_var 0) de_int) (dss_one (ds_ret (de_tup (da_cons (de_tup (da_cons de_str da_nil)) (da_cons de_str (da_cons de_int da_nil)))))) dss_nil)
    (dss_cons (ds_if (dt_cmp (opd_eq rfl hr.units) (de_var 0) de_int) (dss_one (ds_ret (de_tup (da_cons (de_tup (da_cons de_str (da_cons (de_tup (da_cons (de_var 3) (da_cons de_int da_nil))) da_nil))) (da_cons de_str (da_cons de_int da_nil)))))) dss_nil)
    (dss_cons (ds_if (L2.PW.pt (dw_and (dt_cmp (opd_eq rfl hr.units) (de_var 0) de_int) (dw_and1 (dt_cmp opd_le (de_bin opd_mul de_int (de_var 9)) (de_var 6))))) (dss_one (ds_ret (de_tup (da_cons (de_tup (da_cons de_str (da_cons (de_var 1) (da_cons de_int da_nil)))) (da_cons (de_var 8) (da_cons (de_bin opd_mul de_int (de_var 9)) da_nil)))))) dss_nil)
    (dss_one (ds_ret (de_tup (da_cons (de_tup (da_cons de_str (da_cons (de_tup (da_cons (de_var 3) (da_cons de_int da_nil))) (da_cons (de_var 1) da_nil)))) (da_cons (de_var 8) (da_cons (de_var 9) da_nil))))))))))))))))))
theorem sc__law_given : FnScope ["steps", "given_steps", "step"] ["steps"] (defScope st__law_given) := ⟨rfl, rfl, rfl, by decide +kernel, rfl, by decide +kernel, by decide +kernel⟩
theorem c__law_given {f : Addr} {fd : FuncData} (T : Txt K mg A_Ratio A_Recipe A_InvalidRecipe A_ZeroDivisor A_InvalidNumber A_WrongKind a_NEW_WORDS a_PAIRS a__POWERS) {f_Ratio__init : Addr} {fd_Ratio__init : FuncData} (C_Ratio__init : CalI P w K mg base (L2N.CX P w) 1 "Ratio" ["self", "num", "den"] m_Ratio__init A_Ratio f_Ratio__init fd_Ratio__init) (Fu : Fun K "_law_given" "_law_given" st__law_given f fd) : FnOk P w K mg base (L2N.CX P w) 3 f fd ["steps"] (spD ⟨K, mg, none, none⟩ m__law_given) :=
  okD (k := 2) Fu sc__law_given rfl rfl (by decide) fun cdv A outer s H E hr => by exact ((dss_cons (ds_set 1 sc__law_given.nd (de_lst da_nil))
    (dss_cons (ds_for (passes_of rfl) rfl (pi_seq (de_var 0)) (tri_seq ⟨rfl, rfl⟩) (pg_name sc__law_given.nd rfl (by first | exact Or.inl rfl | exact Or.inr rfl)) (trg_name 2) (dss_one (ds_if (dt_cmp (opd_eq rfl hr.units) (de_ix (ixd rfl) (de_var 2) de_int) de_str) (dss_one (ds_drop (de_append 1 (da_cons (de_tup (da_cons de_str (da_cons (de_newI C_Ratio__init ⟨rfl, rfl⟩ (hr.mono (by decide)) rfl (letsN (L2N.takes_of rfl rfl rfl rfl)) (da_cons (de_ix (ixd rfl) (de_ix (ixd rfl) (de_var 2) de_int) de_int) (da_cons (de_ix (ixd rfl) (de_ix (ixd rfl) (de_var 2) de_int) de_int) da_nil))) da_nil))) da_nil) (pv 1)))) (dss_one (ds_if (dt_cmp (opd_eq rfl hr.units) (de_ix (ixd rfl) (de_var 2) de_int) de_str) (dss_one (ds_drop (de_append 1 (da_cons (de_tup (da_cons de_str (da_cons (de_newI C_Ratio__init ⟨rfl, rfl⟩ (hr.mono (by decide)) rfl (letsN (L2N.takes_of rfl rfl rfl rfl)) (da_cons (de_ix (ixd rfl) (de_ix (ixd rfl) (de_var 2) de_int) de_int) (da_cons (de_ix (ixd rfl) (de_ix (ixd rfl) (de_var 2) de_int) de_int) da_nil))) (da_cons (de_ix (ixd rfl) (de_var 2) de_int) da_nil)))) da_nil) (pv 1)))) (dss_one (ds_drop (de_append 1 (da_cons (de_var 2) da_nil) (pv 1)))))))))
    (dss_one (ds_ret (de_var 1))))))
theorem sc__law_letters : FnScope ["number", "many", "alphabet", "start", "step", "k"] ["number", "many"] (defScope st__law_letters) := ⟨rfl, rfl, rfl, by decide +kernel, rfl, by decide +kernel, by decide +kernel⟩
theorem c__law_letters {f : Addr} {fd : FuncData} (T : Txt K mg A_Ratio A_Recipe A_InvalidRecipe A_ZeroDivisor A_InvalidNumber A_WrongKind a_NEW_WORDS a_PAIRS a__POWERS) (Fu : Fun K "_law_letters" "_law_letters" st__law_letters f fd) : FnOk P w K mg base (L2.CX P w) 1 f fd ["number", "many"] (spD ⟨K, mg, none, none⟩ m__law_letters) :=
  okD (k := 0) Fu sc__law_letters rfl rfl (by decide) fun cdv A outer s H E hr => by exact ((dss_cons (ds_set 2 sc__law_letters.nd de_str)
    (dss_cons (ds_set 3 sc__law_letters.nd (de_bin opd_mod (de_cty cbd_int rfl T.n_int (by decide +kernel) (da_cons (de_var 0) da_nil)) de_int))
    (dss_cons (ds_set 4 sc__law_letters.nd (de_ix (ixd rfl) (de_lst (da_cons de_int (da_cons de_int (da_cons de_int (da_cons de_int (da_cons de_int (da_cons de_int (da_cons de_int (da_cons de_int (da_cons de_int (da_cons de_int (da_cons de_int (da_cons de_int da_nil))))))))))))) (de_bin opd_mod (de_cty cbd_int rfl T.n_int (by decide +kernel) (da_cons (de_bin opd_fdiv (de_var 0) de_int) da_nil)) de_int)))
    (dss_one (ds_ret (de_lc rfl sc__law_letters.nd (pi_range1 rfl T.n_range (da_cons (de_var 1) da_nil)) tri_r1 (blkOk_by (own := [("k", 5)]) (by exact rfl)) (fun _ _ _ _ _ => (pg_name sc__law_letters.nd rfl (by first | exact Or.inl rfl | exact Or.inr rfl))) (trg_name 5) (gl_name (by decide)) (fun _ _ _ _ _ => dts_nil) (fun _ _ _ _ _ => (de_ix ixd_T (de_var 2) (de_bin opd_mod (de_cty cbd_int rfl T.n_int (by decide +kernel) (da_cons (de_bin (opd_add rfl) (de_var 3) (de_bin opd_mul (de_var 4) (de_var 5))) da_nil)) de_int))))))))))
theorem sc__law_line : FnScope ["step", "words", "part"] ["step"] (defScope st__law_line) := ⟨rfl, rfl, rfl, by decide +kernel, rfl, by decide +kernel, by decide +kernel⟩
theorem c__law_line {f : Addr} {fd : FuncData} (T : Txt K mg A_Ratio A_Recipe A_InvalidRecipe A_ZeroDivisor A_InvalidNumber A_WrongKind a_NEW_WORDS a_PAIRS a__POWERS) {f_Ratio__init : Addr} {fd_Ratio__init : FuncData} (C_Ratio__init : CalI P w K mg base (L2N.CX P w) 1 "Ratio" ["self", "num", "den"] m_Ratio__init A_Ratio f_Ratio__init fd_Ratio__init) {f_Ratio__str : Addr} {fd_Ratio__str : FuncData} (C_Ratio__str : CalO P w K mg base 1 "Ratio" "__str__" ["self"] m_Ratio__str A_Ratio f_Ratio__str fd_Ratio__str) (Fu : Fun K "_law_line" "_law_line" st__law_line f fd) : FnOk P w K mg base (L2.CX P w) 4 f fd ["step"] (spD ⟨K, mg, none, none⟩ m__law_line) :=
  okD (k := 3) Fu sc__law_line rfl rfl (by decide) fun cdv A outer s H E hr => by exact ((dss_cons (ds_set 1 sc__law_line.nd (de_lst (da_cons (de_ix (ixd rfl) (de_var 0) de_int) da_nil)))
    (dss_cons (ds_for (passes_of rfl) rfl (pi_seq (de_sl (sld rfl) (de_var 0) (dp_e de_int) dp_no)) (tri_seq ⟨rfl, rfl⟩) (pg_name sc__law_line.nd rfl (by first | exact Or.inl rfl | exact Or.inr rfl)) (trg_name 2) (dss_one (ds_if (dt_tru ⟨rfl, rfl⟩ (de_isTy ⟨rfl, rfl⟩ tab_tuple rfl T.n_isinstance rfl T.n_tuple (by decide +kernel) (de_var 2))) (dss_one (ds_drop (de_append 1 (da_cons (de_cbS (CBS.or (CBD.strong cbd_strT) (cbs_strOwn C_Ratio__str ⟨rfl, rfl⟩ (hr.mono (by decide)))) rfl T.n_str (by decide +kernel) (da_cons (de_newI C_Ratio__init ⟨rfl, rfl⟩ (hr.mono (by decide)) rfl (letsM (takes_of rfl rfl rfl rfl)) (da_cons (de_ix (ixd rfl) (de_var 2) de_int) (da_cons (de_ix (ixd rfl) (de_var 2) de_int) da_nil))) da_nil)) da_nil) (pv 1)))) (dss_one (ds_drop (de_append 1 (da_cons (de_cty cbd_strT rfl T.n_str (by decide +kernel) (da_cons (de_var 2) da_nil)) da_nil) (pv 1)))))))
    (dss_one (ds_ret (de_join ⟨rfl, rfl⟩ de_str (de_var 1)))))))
theorem sc__law_bad_line : FnScope ["way", "at", "kinds"] ["way", "at", "kinds"] (defScope st__law_bad_line) := ⟨rfl, rfl, rfl, by decide +kernel, rfl, by decide +kernel, by decide +kernel⟩
theorem c__law_bad_line {f : Addr} {fd : FuncData} (T : Txt K mg A_Ratio A_Recipe A_InvalidRecipe A_ZeroDivisor A_InvalidNumber A_WrongKind a_NEW_WORDS a_PAIRS a__POWERS) (Fu : Fun K "_law_bad_line" "_law_bad_line" st__law_bad_line f fd) : FnOk P w K mg base (L2.CX P w) 1 f fd ["way", "at", "kinds"] (spD ⟨K, mg, none, none⟩ m__law_bad_line) :=
  okD (k := 0) Fu sc__law_bad_line rfl rfl (by decide) fun cdv A outer s H E hr => by exact ((dss_cons (ds_if (dt_cmp (opd_eq rfl hr.units) (de_var 0) de_int) (dss_one (ds_ret de_str)) dss_nil)
    (dss_cons (ds_if (dt_cmp (opd_eq rfl hr.units) (de_var 0) de_int) (dss_one (ds_ret (de_bin (opd_add rfl) de_str (de_cty cbd_strT rfl T.n_str (by decide +kernel) (da_cons (de_var 1) da_nil))))) dss_nil)
    (dss_cons (ds_if (dt_cmp (opd_eq rfl hr.units) (de_var 0) de_int) (dss_one (ds_ret de_str)) dss_nil)
    (dss_cons (ds_if (dt_cmp (opd_eq rfl hr.units) (de_var 0) de_int) (dss_one (ds_ret de_str)) dss_nil)
    (dss_cons (ds_if (dt_cmp (opd_eq rfl hr.units) (de_var 0) de_int) (dss_one (ds_ret de_str)) dss_nil)
    (dss_cons (ds_if (dt_cmp (opd_eq rfl hr.units) (de_var 0) de_int) (dss_one (ds_ret de_str)) dss_nil)
    (dss_cons (ds_if (dt_cmp (opd_eq rfl hr.units) (de_var 0) de_int) (dss_one (ds_ret de_str)) dss_nil)
    (dss_cons (ds_if (dt_cmp (opd_eq rfl hr.units) (de_var 0) de_int) (dss_one (ds_ret de_str)) dss_nil)
    (dss_cons (ds_if (dt_cmp (opd_eq rfl hr.units) (de_var 0) de_int) (dss_one (ds_ret de_str)) dss_nil)
    (dss_cons (ds_if (dt_cmp (opd_eq rfl hr.units) (de_var 0) de_int) (dss_one (ds_ret de_str)) dss_nil)
    (dss_cons (ds_if (L2.PW.pt (dw_and (dt_cmp (opd_eq rfl hr.units) (de_var 0) de_int) (dw_and1 (dt_cmp (opd_in rfl) de_str (de_sl (sld rfl) (de_var 2) dp_no (dp_e (de_var 1))))))) (dss_one (ds_ret (de_bin (opd_add rfl) de_str (de_cty cbd_strT rfl T.n_str (by decide +kernel) (da_cons (de_lstIndex ⟨rfl, rfl⟩ (de_var 2) (da_cons de_str da_nil)) da_nil))))) dss_nil)
    (dss_one (ds_ret de_str))))))))))))))
theorem sc_Ratio__read : FnScope ["cls", "text", "head", "bar", "tail", "negative", "num", "den"] ["cls", "text"] (defScope st_Ratio__read) := ⟨rfl, rfl, rfl, by decide +kernel, rfl, by decide +kernel, by decide +kernel⟩
theorem c_Ratio__read {f : Addr} {fd : FuncData} (T : Txt K mg A_Ratio A_Recipe A_InvalidRecipe A_ZeroDivisor A_InvalidNumber A_WrongKind a_NEW_WORDS a_PAIRS a__POWERS) {f_natural : Addr} {fd_natural : FuncData} (C_natural : Cal P w K mg base (L2N.CX P w) 1 "natural" ["digits"] m_natural f_natural fd_natural) {f_Ratio__init : Addr} {fd_Ratio__init : FuncData} (C_Ratio__init : CalI P w K mg base (L2N.CX P w) 1 "Ratio" ["self", "num", "den"] m_Ratio__init A_Ratio f_Ratio__init fd_Ratio__init) (Fu : Fun K "read" "Ratio.read" st_Ratio__read f fd) : FnOk P w K mg base (L2N.CX P w) 3 f fd ["cls", "text"] (spC ⟨K, mg, none, none⟩ "Ratio" m_Ratio__read) :=
  okC (k := 2) Fu sc_Ratio__read rfl rfl (by decide) fun C0 cdv A outer s H E hC0 hr => by exact ((dss_cons (ds_tg (de_partition (de_var 1) de_str) (pg_tup rfl (pgs_cons (pg_name sc_Ratio__read.nd rfl (by first | exact Or.inl rfl | exact Or.inr rfl)) (pgs_cons (pg_name sc_Ratio__read.nd rfl (by first | exact Or.inl rfl | exact Or.inr rfl)) (pgs_cons (pg_name sc_Ratio__read.nd rfl (by first | exact Or.inl rfl | exact Or.inr rfl)) pgs_nil)))) (trg_tup false ⟨rfl, rfl⟩ (trgs_cons 2 (trgs_cons 3 (trgs_cons 4 trgs_nil)))))
    (dss_cons (ds_set 5 sc_Ratio__read.nd (de_cmp (opd_eq rfl hr.units) (de_sl sld_T (de_var 2) dp_no (dp_e de_int)) de_str))
    (dss_cons (ds_set 6 sc_Ratio__read.nd (de_callC C_natural ⟨rfl, rfl⟩ (hr.mono (by decide)) rfl (letsN (L2N.takes_of rfl rfl rfl rfl)) (da_cons (de_if (dt_tru ⟨rfl, rfl⟩ (de_var 5)) (de_sl sld_T (de_var 2) (dp_e de_int) dp_no) (de_var 2)) da_nil)))
    (dss_cons (ds_if (L2.PW.pt (dw_and (dt_tru ⟨rfl, rfl⟩ (de_var 5)) (dw_and1 (dt_cmp (opd_eq rfl hr.units) (de_var 6) de_int)))) (dss_one (ds_raiseN rfl (L2N.takes_of rfl rfl rfl rfl) (L2N.pmk_own PySem.F.excBase_ValueError T.q_InvalidNumber T.x_InvalidNumber T.k_InvalidNumber (raises_own T.b_InvalidNumber T.t_InvalidNumber) (by exact rfl)) (fun _ _ _ hq => hq _ T.x_InvalidNumber))) dss_nil)
    (dss_cons (ds_set 7 sc_Ratio__read.nd de_int)
    (dss_cons (ds_if (dt_cmp (opd_eq rfl hr.units) (de_var 3) de_str) (dss_cons (ds_set 7 sc_Ratio__read.nd (de_callC C_natural ⟨rfl, rfl⟩ (hr.mono (by decide)) rfl (letsN (L2N.takes_of rfl rfl rfl rfl)) (da_cons (de_var 4) da_nil)))
    (dss_one (ds_if (L2.PW.pt (dw_or (dt_cmp opd_lt (de_var 7) de_int) (dw_or1 (dt_cmp opd_gt (de_cbF cbd_gcd rfl T.b_gcd (da_cons (de_var 6) (da_cons (de_var 7) da_nil))) de_int)))) (dss_one (ds_raiseN rfl (L2N.takes_of rfl rfl rfl rfl) (L2N.pmk_own PySem.F.excBase_ValueError T.q_InvalidNumber T.x_InvalidNumber T.k_InvalidNumber (raises_own T.b_InvalidNumber T.t_InvalidNumber) (by exact rfl)) (fun _ _ _ hq => hq _ T.x_InvalidNumber))) dss_nil))) dss_nil)
    (dss_one (ds_ret (de_clsI C_Ratio__init ⟨rfl, rfl⟩ (hr.mono (by decide)) rfl (Or.inl rfl) rfl hC0 (letsN (L2N.takes_of rfl rfl rfl rfl)) (da_cons (de_if (dt_tru ⟨rfl, rfl⟩ (de_var 5)) (de_neg (de_var 6)) (de_var 6)) (da_cons (de_var 7) da_nil))))))))))))
theorem sc_Recipe__init : FnScope ["self", "letters", "steps", "result", "kinds", "step"] ["self", "letters", "steps", "result"] (defScope st_Recipe__init) := ⟨rfl, rfl, rfl, by decide +kernel, rfl, by decide +kernel, by decide +kernel⟩
theorem c_Recipe__init {f : Addr} {fd : FuncData} (T : Txt K mg A_Ratio A_Recipe A_InvalidRecipe A_ZeroDivisor A_InvalidNumber A_WrongKind a_NEW_WORDS a_PAIRS a__POWERS) {f_kind_of_step : Addr} {fd_kind_of_step : FuncData} (C_kind_of_step : Cal P w K mg base (L2N.CX P w) 2 "kind_of_step" ["step", "kinds"] m_kind_of_step f_kind_of_step fd_kind_of_step) (Fu : Fun K "__init__" "Recipe.__init__" st_Recipe__init f fd) : FnOk P w K mg base (L2N.CX P w) 3 f fd ["self", "letters", "steps", "result"] (spI ⟨K, mg, none, none⟩ "Recipe" m_Recipe__init) :=
  okI (k := 2) Fu sc_Recipe__init rfl rfl (by decide) fun x0 cdv A outer s H E hr => by exact ((dss_cons (ds_set 4 sc_Recipe__init.nd (de_lst da_nil))
    (dss_cons (ds_for (passes_of rfl) rfl (pi_seq (de_var 2)) (tri_seq ⟨rfl, rfl⟩) (pg_name sc_Recipe__init.nd rfl (by first | exact Or.inl rfl | exact Or.inr rfl)) (trg_name 5) (dss_one (ds_drop (de_append 4 (da_cons (de_callC C_kind_of_step ⟨rfl, rfl⟩ (hr.mono (by decide)) rfl (letsN (L2N.takes_of rfl rfl rfl rfl)) (da_cons (de_var 5) (da_cons (de_var 4) da_nil))) da_nil) (pv 4)))))
    (dss_cons (ds_fld 0 ⟨rfl, rfl⟩ (fldOk1 T.x_Recipe T.cl_Recipe T.no_Recipe_letters) (pv 0) (de_var 1))
    (dss_cons (ds_fld 0 ⟨rfl, rfl⟩ (fldOk1 T.x_Recipe T.cl_Recipe T.no_Recipe_steps) (pv 0) (de_cty (cbd_tuple rfl) rfl T.n_tuple (by decide +kernel) (da_cons (de_var 2) da_nil)))
    (dss_cons (ds_fld 0 ⟨rfl, rfl⟩ (fldOk1 T.x_Recipe T.cl_Recipe T.no_Recipe_kinds) (pv 0) (de_cty (cbd_tuple rfl) rfl T.n_tuple (by decide +kernel) (da_cons (de_var 4) da_nil)))
    (dss_cons (ds_fld 0 ⟨rfl, rfl⟩ (fldOk1 T.x_Recipe T.cl_Recipe T.no_Recipe_result) (pv 0) (de_var 3))
    (dss_one (ds_fld 0 ⟨rfl, rfl⟩ (fldOk1 T.x_Recipe T.cl_Recipe T.no_Recipe_kind) (pv 0) (de_ix (ixd rfl) (de_var 4) (de_var 3)))))))))))
theorem sc__read_ratio : FnScope ["text", "number"] ["text", "number"] (defScope st__read_ratio) := ⟨rfl, rfl, rfl, by decide +kernel, rfl, by decide +kernel, by decide +kernel⟩
theorem c__read_ratio {f : Addr} {fd : FuncData} (T : Txt K mg A_Ratio A_Recipe A_InvalidRecipe A_ZeroDivisor A_InvalidNumber A_WrongKind a_NEW_WORDS a_PAIRS a__POWERS) {f_Ratio__read : Addr} {fd_Ratio__read : FuncData} (C_Ratio__read : CalC P w K mg base (L2N.CX P w) 3 "Ratio" "read" ["cls", "text"] m_Ratio__read A_Ratio f_Ratio__read fd_Ratio__read) {fI_InvalidRecipe : Addr} {fd_InvalidRecipe : FuncData} (C_InvalidRecipe : CalX P w K mg base "InvalidRecipe" "line" "line" A_InvalidRecipe fI_InvalidRecipe fd_InvalidRecipe) (Fu : Fun K "_read_ratio" "_read_ratio" st__read_ratio f fd) : FnOk P w K mg base (L2.CX P w) 4 f fd ["text", "number"] (spD ⟨K, mg, none, none⟩ m__read_ratio) :=
  okD (k := 3) Fu sc__read_ratio rfl rfl (by decide) fun cdv A outer s H E hr => by exact ((dss_one (ds_tryX ⟨rfl, rfl⟩ rfl rfl ⟨rfl, by decide, Or.inl T.x_InvalidNumber⟩ (fun hd => L2H.passesAt_of rfl hd) (takes_of rfl rfl rfl rfl) T.sub_InvalidNumber
    (fun W1 pn1 xe1 tk1 po1 => (dss_one (ds_ret (de_cmeth C_Ratio__read ⟨rfl, rfl⟩ (hr.mono (by decide)) rfl (letsN tk1) (da_cons (de_var 0) da_nil)))))
    (fun ax oe pnx tkS hot => (dss_one (ds_rzXN C_InvalidRecipe ⟨rfl, rfl⟩ hot tkS (L2H.roomH_mark (hr.mono (by decide)) _) rfl (de_var 1)))))))
theorem sc__read_step : FnScope ["words", "letters", "steps", "number", "word"] ["words", "letters", "steps", "number"] (defScope st__read_step) := ⟨rfl, rfl, rfl, by decide +kernel, rfl, by decide +kernel, by decide +kernel⟩
theorem c__read_step {f : Addr} {fd : FuncData} (T : Txt K mg A_Ratio A_Recipe A_InvalidRecipe A_ZeroDivisor A_InvalidNumber A_WrongKind a_NEW_WORDS a_PAIRS a__POWERS) {fI_InvalidRecipe : Addr} {fd_InvalidRecipe : FuncData} (C_InvalidRecipe : CalX P w K mg base "InvalidRecipe" "line" "line" A_InvalidRecipe fI_InvalidRecipe fd_InvalidRecipe) {f__read_ratio : Addr} {fd__read_ratio : FuncData} (C__read_ratio : Cal P w K mg base (L2.CX P w) 4 "_read_ratio" ["text", "number"] m__read_ratio f__read_ratio fd__read_ratio) {f__read_index : Addr} {fd__read_index : FuncData} (C__read_index : Cal P w K mg base (L2.CX P w) 3 "_read_index" ["words", "steps", "number"] m__read_index f__read_index fd__read_index) (Fu : Fun K "_read_step" "_read_step" st__read_step f fd) : FnOk P w K mg base (L2.CX P w) 5 f fd ["words", "letters", "steps", "number"] (spD ⟨K, mg, none, none⟩ m__read_step) :=
  okD (k := 4) Fu sc__read_step rfl rfl (by decide) fun cdv A outer s H E hr => by exact ((dss_cons (ds_set 4 sc__read_step.nd (de_ix (ixd rfl) (de_var 0) de_int))
    (dss_cons (ds_if (dt_cmp (opd_eq rfl hr.units) (de_cb (cbd_len rfl) rfl T.n_len (by decide +kernel) (da_cons (de_var 2) da_nil)) (de_cG rfl T.g_MOST_RECIPE_STEPS fun _ => rfl)) (dss_one (ds_rzX C_InvalidRecipe ⟨rfl, rfl⟩ rfl (takes_of rfl rfl rfl rfl) (hr.mono (by decide)) rfl (de_var 3))) dss_nil)
    (dss_cons (ds_if (L2.PW.pt (dw_and (dt_cmp (opd_eq rfl hr.units) (de_var 4) de_str) (dw_and1 (dt_cmp (opd_eq rfl hr.units) (de_cb (cbd_len rfl) rfl T.n_len (by decide +kernel) (da_cons (de_var 0) da_nil)) de_int)))) (dss_one (ds_ret (de_tup (da_cons de_str da_nil)))) dss_nil)
    (dss_cons (ds_if (L2.PW.pt (dw_and (dt_cmp (opd_eq rfl hr.units) (de_var 4) de_str) (dw_and (dt_cmp (opd_eq rfl hr.units) (de_cb (cbd_len rfl) rfl T.n_len (by decide +kernel) (da_cons (de_var 0) da_nil)) de_int) (dw_and (dt_cmp (opd_eq rfl hr.units) (de_cb cbd_lenT rfl T.n_len (by decide +kernel) (da_cons (de_ix (ixd rfl) (de_var 0) de_int) da_nil)) de_int) (dw_and1 (dt_cmp opd_inT (de_ix (ixd rfl) (de_var 0) de_int) (de_var 1))))))) (dss_one (ds_ret (de_tup (da_cons de_str (da_cons (de_ix (ixd rfl) (de_var 0) de_int) da_nil))))) dss_nil)
    (dss_cons (ds_if (L2.PW.pt (dw_and (dt_cmp (opd_eq rfl hr.units) (de_var 4) de_str) (dw_and1 (dt_cmp (opd_eq rfl hr.units) (de_cb (cbd_len rfl) rfl T.n_len (by decide +kernel) (da_cons (de_var 0) da_nil)) de_int)))) (dss_one (ds_ret (de_tup (da_cons de_str (da_cons (de_callC C__read_ratio ⟨rfl, rfl⟩ (hr.mono (by decide)) rfl (lets (takes_of rfl rfl rfl rfl)) (da_cons (de_ix (ixd rfl) (de_var 0) de_int) (da_cons (de_var 3) da_nil))) da_nil))))) dss_nil)
    (dss_cons (ds_if (L2.PW.pt (dw_and (dt_cmp (opd_eq rfl hr.units) (de_var 4) de_str) (dw_and1 (dt_cmp (opd_eq rfl hr.units) (de_cb (cbd_len rfl) rfl T.n_len (by decide +kernel) (da_cons (de_var 0) da_nil)) de_int)))) (dss_one (ds_ret (de_tup (da_cons de_str (da_cons (de_callC C__read_ratio ⟨rfl, rfl⟩ (hr.mono (by decide)) rfl (lets (takes_of rfl rfl rfl rfl)) (da_cons (de_ix (ixd rfl) (de_var 0) de_int) (da_cons (de_var 3) da_nil))) (da_cons (de_callC C__read_index ⟨rfl, rfl⟩ (hr.mono (by decide)) rfl (lets (takes_of rfl rfl rfl rfl)) (da_cons (de_sl (sld rfl) (de_var 0) (dp_e de_int) dp_no) (da_cons (de_var 2) (da_cons (de_var 3) da_nil)))) da_nil)))))) dss_nil)
    (dss_cons (ds_if (L2.PW.pt (dw_and (dt_cmp (opd_eq rfl hr.units) (de_var 4) de_str) (dw_and (dt_cmp (opd_eq rfl hr.units) (de_cb (cbd_len rfl) rfl T.n_len (by decide +kernel) (da_cons (de_var 0) da_nil)) de_int) (dw_and1 (dt_cmp (opd_in rfl) (de_ix (ixd rfl) (de_var 0) de_int) (de_c (pe_glob (v := .ref _) rfl T.mg__POWERS rfl) T.rep__POWERS)))))) (dss_one (ds_ret (de_tup (da_cons de_str (da_cons (de_callC C__read_index ⟨rfl, rfl⟩ (hr.mono (by decide)) rfl (lets (takes_of rfl rfl rfl rfl)) (da_cons (de_sl (sld rfl) (de_var 0) (dp_e de_int) (dp_e de_int)) (da_cons (de_var 2) (da_cons (de_var 3) da_nil)))) (da_cons (de_cty cbd_intS rfl T.n_int (by decide +kernel) (da_cons (de_ix (ixd rfl) (de_var 0) de_int) da_nil)) da_nil)))))) dss_nil)
    (dss_cons (ds_if (L2.PW.pt (dw_and (dt_cmp (opd_in rfl) (de_var 4) (de_c (pe_glob (v := .ref _) rfl T.mg_PAIRS rfl) T.rep_PAIRS)) (dw_and1 (dt_cmp (opd_eq rfl hr.units) (de_cb (cbd_len rfl) rfl T.n_len (by decide +kernel) (da_cons (de_var 0) da_nil)) de_int)))) (dss_one (ds_ret (de_tup (da_cons (de_var 4) (da_cons (de_callC C__read_index ⟨rfl, rfl⟩ (hr.mono (by decide)) rfl (lets (takes_of rfl rfl rfl rfl)) (da_cons (de_sl (sld rfl) (de_var 0) (dp_e de_int) (dp_e de_int)) (da_cons (de_var 2) (da_cons (de_var 3) da_nil)))) (da_cons (de_callC C__read_index ⟨rfl, rfl⟩ (hr.mono (by decide)) rfl (lets (takes_of rfl rfl rfl rfl)) (da_cons (de_sl (sld rfl) (de_var 0) (dp_e de_int) dp_no) (da_cons (de_var 2) (da_cons (de_var 3) da_nil)))) da_nil)))))) dss_nil)
    (dss_cons (ds_if (L2.PW.pt (dw_or (dt_cmp (opd_eq rfl hr.units) (de_var 4) de_str) (dw_or1 (dt_cmp (opd_in rfl) (de_var 4) (de_c (pe_glob (v := .ref _) rfl T.mg_NEW_WORDS rfl) T.rep_NEW_WORDS))))) (dss_one (ds_ret (de_tup (da_cons (de_var 4) (da_cons (de_callC C__read_index ⟨rfl, rfl⟩ (hr.mono (by decide)) rfl (lets (takes_of rfl rfl rfl rfl)) (da_cons (de_sl (sld rfl) (de_var 0) (dp_e de_int) dp_no) (da_cons (de_var 2) (da_cons (de_var 3) da_nil)))) da_nil))))) dss_nil)
    (dss_one (ds_rzX C_InvalidRecipe ⟨rfl, rfl⟩ rfl (takes_of rfl rfl rfl rfl) (hr.mono (by decide)) rfl (de_var 3)))))))))))))
theorem sc__law_steps : FnScope ["number", "letters", "many", "most", "backs", "size", "steps", "letter", "kinds", "grades", "left", "turn", "pick", "first", "second", "factor", "made"] ["number", "letters", "many", "most", "backs", "size"] (defScope st__law_steps) := ⟨rfl, rfl, rfl, by decide +kernel, rfl, by decide +kernel, by decide +kernel⟩
theorem c__law_steps {f : Addr} {fd : FuncData} (T : Txt K mg A_Ratio A_Recipe A_InvalidRecipe A_ZeroDivisor A_InvalidNumber A_WrongKind a_NEW_WORDS a_PAIRS a__POWERS) {f__law_step : Addr} {fd__law_step : FuncData} (C__law_step : Cal P w K mg base (L2.CX P w) 1 "_law_step" ["pick", "first", "second", "factor", "kinds", "grades", "most", "size"] m__law_step f__law_step fd__law_step) (Fu : Fun K "_law_steps" "_law_steps" st__law_steps f fd) : FnOk P w K mg base (L2.CX P w) 2 f fd ["number", "letters", "many", "most", "backs", "size"] (spD ⟨K, mg, none, none⟩ m__law_steps) :=
  okD (k := 1) Fu sc__law_steps rfl rfl (by decide) fun cdv A outer s H E hr => by exact ((dss_cons (ds_setLc 6 rfl sc__law_steps.nd rfl rfl (sw_true rfl rfl rfl rfl) (pi_seq (de_var 1)) (tri_seq ⟨rfl, rfl⟩) (blkOk_by (own := [("letter", 7)]) (by exact rfl)) (fun _ _ _ _ _ => (pg_name sc__law_steps.nd rfl (by first | exact Or.inl rfl | exact Or.inr rfl))) (trg_name 7) (gl_name (by decide)) (fun _ _ _ _ _ => dts_nil) (fun _ _ _ _ _ => (de_tup (da_cons de_str (da_cons (de_var 7) da_nil)))))
    (dss_cons (ds_setLc 8 rfl sc__law_steps.nd rfl rfl (sw_true rfl rfl rfl rfl) (pi_seq (de_var 1)) (tri_seq ⟨rfl, rfl⟩) (blkOk_by (own := [("letter", 7)]) (by exact rfl)) (fun _ _ _ _ _ => (pg_name sc__law_steps.nd rfl (by first | exact Or.inl rfl | exact Or.inr rfl))) (trg_name 7) (gl_name (by decide)) (fun _ _ _ _ _ => dts_nil) (fun _ _ _ _ _ => de_str))
    (dss_cons (ds_setLc 9 rfl sc__law_steps.nd rfl rfl (sw_true rfl rfl rfl rfl) (pi_seq (de_var 1)) (tri_seq ⟨rfl, rfl⟩) (blkOk_by (own := [("letter", 7)]) (by exact rfl)) (fun _ _ _ _ _ => (pg_name sc__law_steps.nd rfl (by first | exact Or.inl rfl | exact Or.inr rfl))) (trg_name 7) (gl_name (by decide)) (fun _ _ _ _ _ => dts_nil) (fun _ _ _ _ _ => de_int))
    (dss_cons (ds_if (dt_cmp (opd_eq rfl hr.units) (de_cb (cbd_len rfl) rfl T.n_len (by decide +kernel) (da_cons (de_var 6) da_nil)) de_int) (dss_cons (ds_drop (de_append 6 (da_cons (de_tup (da_cons de_str da_nil)) da_nil) (pv 6)))
    (dss_cons (ds_drop (de_append 8 (da_cons de_str da_nil) (pv 8)))
    (dss_one (ds_drop (de_append 9 (da_cons de_int da_nil) (pv 9)))))) dss_nil)
    (dss_cons (ds_set 10 sc__law_steps.nd (de_var 4))
    (dss_cons (ds_for (passes_of rfl) rfl (pi_range1 rfl T.n_range (da_cons (de_var 2) da_nil)) tri_r1 (pg_name sc__law_steps.nd rfl (by first | exact Or.inl rfl | exact Or.inr rfl)) (trg_name 11) (dss_cons (ds_set 12 sc__law_steps.nd (de_bin opd_mod (de_cty cbd_int rfl T.n_int (by decide +kernel) (da_cons (de_var 0) da_nil)) de_int))
    (dss_cons (ds_set 13 sc__law_steps.nd (de_bin opd_mod (de_cty cbd_int rfl T.n_int (by decide +kernel) (da_cons (de_bin opd_fdiv (de_var 0) de_int) da_nil)) (de_cb (cbd_len rfl) rfl T.n_len (by decide +kernel) (da_cons (de_var 6) da_nil))))
    (dss_cons (ds_set 14 sc__law_steps.nd (de_bin opd_mod (de_cty cbd_int rfl T.n_int (by decide +kernel) (da_cons (de_bin opd_fdiv (de_bin opd_fdiv (de_var 0) de_int) (de_cb (cbd_len rfl) rfl T.n_len (by decide +kernel) (da_cons (de_var 6) da_nil))) da_nil)) (de_cb (cbd_len rfl) rfl T.n_len (by decide +kernel) (da_cons (de_var 6) da_nil))))
    (dss_cons (ds_set 15 sc__law_steps.nd (de_bin opd_sub (de_bin opd_mod (de_cty cbd_int rfl T.n_int (by decide +kernel) (da_cons (de_bin opd_fdiv (de_var 0) de_int) da_nil)) de_int) de_int))
    (dss_cons (ds_set 0 sc__law_steps.nd (de_bin opd_fdiv (de_bin opd_fdiv (de_bin opd_fdiv (de_var 0) de_int) (de_cb (cbd_len rfl) rfl T.n_len (by decide +kernel) (da_cons (de_var 6) da_nil))) (de_cb (cbd_len rfl) rfl T.n_len (by decide +kernel) (da_cons (de_var 6) da_nil))))
    (dss_cons (ds_set 16 sc__law_steps.nd (de_callC C__law_step ⟨rfl, rfl⟩ (hr.mono (by decide)) rfl (lets (takes_of rfl rfl rfl rfl)) (da_cons (de_var 12) (da_cons (de_var 13) (da_cons (de_var 14) (da_cons (de_var 15) (da_cons (de_var 8) (da_cons (de_var 9) (da_cons (de_var 3) (da_cons (de_var 5) da_nil))))))))))
    (dss_cons (ds_if (dt_cmp (opd_eq rfl hr.units) (de_ix (ixd rfl) (de_ix (ixd rfl) (de_var 16) de_int) de_int) de_str) (dss_cons (ds_if (dt_cmp (opd_eq rfl hr.units) (de_var 10) de_int) (dss_one (ds_set 16 sc__law_steps.nd (de_tup (da_cons (de_tup (da_cons de_str (da_cons (de_var 13) da_nil))) (da_cons de_str (da_cons (de_ix (ixd rfl) (de_var 9) (de_var 13)) da_nil)))))) dss_nil)
    (dss_one (ds_set 10 sc__law_steps.nd (de_cb (cbd_max2 rfl) rfl T.n_max (by decide +kernel) (da_cons (de_bin opd_sub (de_var 10) de_int) (da_cons de_int da_nil)))))) dss_nil)
    (dss_cons (ds_drop (de_append 6 (da_cons (de_ix (ixd rfl) (de_var 16) de_int) da_nil) (pv 6)))
    (dss_cons (ds_drop (de_append 8 (da_cons (de_ix (ixd rfl) (de_var 16) de_int) da_nil) (pv 8)))
    (dss_one (ds_drop (de_append 9 (da_cons (de_ix (ixd rfl) (de_var 16) de_int) da_nil) (pv 9))))))))))))))
    (dss_one (ds_ret (de_tupG (da_cons (de_var 6) (da_cons (de_var 8) da_nil))))))))))))
theorem sc_read_recipe : FnScope ["text", "lines", "letters", "steps", "kinds", "number", "line", "words", "step", "result"] ["text"] (defScope st_read_recipe) := ⟨rfl, rfl, rfl, by decide +kernel, rfl, by decide +kernel, by decide +kernel⟩
theorem c_read_recipe {f : Addr} {fd : FuncData} (T : Txt K mg A_Ratio A_Recipe A_InvalidRecipe A_ZeroDivisor A_InvalidNumber A_WrongKind a_NEW_WORDS a_PAIRS a__POWERS) {f__read_letters : Addr} {fd__read_letters : FuncData} (C__read_letters : Cal P w K mg base (L2.CX P w) 3 "_read_letters" ["line"] m__read_letters f__read_letters fd__read_letters) {f__read_index : Addr} {fd__read_index : FuncData} (C__read_index : Cal P w K mg base (L2.CX P w) 3 "_read_index" ["words", "steps", "number"] m__read_index f__read_index fd__read_index) {fI_InvalidRecipe : Addr} {fd_InvalidRecipe : FuncData} (C_InvalidRecipe : CalX P w K mg base "InvalidRecipe" "line" "line" A_InvalidRecipe fI_InvalidRecipe fd_InvalidRecipe) {f_Recipe__init : Addr} {fd_Recipe__init : FuncData} (C_Recipe__init : CalI P w K mg base (L2N.CX P w) 3 "Recipe" ["self", "letters", "steps", "result"] m_Recipe__init A_Recipe f_Recipe__init fd_Recipe__init) {f__read_step : Addr} {fd__read_step : FuncData} (C__read_step : Cal P w K mg base (L2.CX P w) 5 "_read_step" ["words", "letters", "steps", "number"] m__read_step f__read_step fd__read_step) {f_kind_of_step : Addr} {fd_kind_of_step : FuncData} (C_kind_of_step : Cal P w K mg base (L2N.CX P w) 2 "kind_of_step" ["step", "kinds"] m_kind_of_step f_kind_of_step fd_kind_of_step) (Fu : Fun K "read_recipe" "read_recipe" st_read_recipe f fd) : FnOk P w K mg base (L2.CX P w) 6 f fd ["text"] (spD ⟨K, mg, none, none⟩ m_read_recipe) :=
  okD (k := 5) Fu sc_read_recipe rfl rfl (by decide) fun cdv A outer s H E hr => by exact ((dss_cons (ds_set 1 sc_read_recipe.nd (de_split (de_var 0) de_str))
    (dss_cons (ds_set 2 sc_read_recipe.nd (de_callC C__read_letters ⟨rfl, rfl⟩ (hr.mono (by decide)) rfl (lets (takes_of rfl rfl rfl rfl)) (da_cons (de_ix (ixd rfl) (de_var 1) de_int) da_nil)))
    (dss_cons (ds_set 3 sc_read_recipe.nd (de_lst da_nil))
    (dss_cons (ds_set 4 sc_read_recipe.nd (de_lst da_nil))
    (dss_cons (ds_for (passes_of rfl) rfl (pi_enumK (k := 2) rfl T.n_enumerate (de_sl (sld rfl) (de_var 1) (dp_e de_int) dp_no) (by decide)) (tri_enumK ⟨rfl, rfl⟩) (pg_tup rfl (pgs_cons (pg_name sc_read_recipe.nd rfl (by first | exact Or.inl rfl | exact Or.inr rfl)) (pgs_cons (pg_name sc_read_recipe.nd rfl (by first | exact Or.inl rfl | exact Or.inr rfl)) pgs_nil))) (trg_tup true ⟨rfl, rfl⟩ (trgs_cons 5 (trgs_cons 6 trgs_nil))) (dss_cons (ds_set 7 sc_read_recipe.nd (de_split (de_var 6) de_str))
    (dss_cons (ds_if (dt_cmp (opd_eq rfl hr.units) (de_ix (ixd rfl) (de_var 7) de_int) de_str) (dss_cons (ds_set 9 sc_read_recipe.nd (de_callC C__read_index ⟨rfl, rfl⟩ (hr.mono (by decide)) rfl (lets (takes_of rfl rfl rfl rfl)) (da_cons (de_sl (sld rfl) (de_var 7) (dp_e de_int) dp_no) (da_cons (de_var 3) (da_cons (de_var 5) da_nil)))))
    (dss_cons (ds_if (dt_cmp opd_lt (de_var 5) (de_cb (cbd_len rfl) rfl T.n_len (by decide +kernel) (da_cons (de_var 1) da_nil))) (dss_one (ds_rzX C_InvalidRecipe ⟨rfl, rfl⟩ rfl (takes_of rfl rfl rfl rfl) (hr.mono (by decide)) rfl (de_bin (opd_add rfl) (de_var 5) de_int))) dss_nil)
    (dss_one (ds_ret (de_newI C_Recipe__init ⟨rfl, rfl⟩ (hr.mono (by decide)) rfl (letsM (takes_of rfl rfl rfl rfl)) (da_cons (de_var 2) (da_cons (de_var 3) (da_cons (de_var 9) da_nil)))))))) dss_nil)
    (dss_cons (ds_set 8 sc_read_recipe.nd (de_callC C__read_step ⟨rfl, rfl⟩ (hr.mono (by decide)) rfl (lets (takes_of rfl rfl rfl rfl)) (da_cons (de_var 7) (da_cons (de_var 2) (da_cons (de_var 3) (da_cons (de_var 5) da_nil))))))
    (dss_cons (ds_tryX ⟨rfl, rfl⟩ rfl rfl ⟨rfl, by decide, Or.inl T.x_WrongKind⟩ (fun hd => L2H.passesAt_of rfl hd) (takes_of rfl rfl rfl rfl) T.sub_WrongKind
    (fun W1 pn1 xe1 tk1 po1 => (dss_one (ds_drop (de_append 4 (da_cons (de_callC C_kind_of_step ⟨rfl, rfl⟩ (hr.mono (by decide)) rfl (letsN tk1) (da_cons (de_var 8) (da_cons (de_var 4) da_nil))) da_nil) (pv 4)))))
    (fun ax oe pnx tkS hot => (dss_one (ds_rzXN C_InvalidRecipe ⟨rfl, rfl⟩ hot tkS (L2H.roomH_mark (hr.mono (by decide)) _) rfl (de_var 5)))))
    (dss_one (ds_drop (de_append 3 (da_cons (de_var 8) da_nil) (pv 3)))))))))
    (dss_one (ds_rzX C_InvalidRecipe ⟨rfl, rfl⟩ rfl (takes_of rfl rfl rfl rfl) (hr.mono (by decide)) rfl (de_bin (opd_add rfl) (de_cb (cbd_len rfl) rfl T.n_len (by decide +kernel) (da_cons (de_var 1) da_nil)) de_int)))))))))
theorem sc_law : FnScope ["script", "number", "letters", "size", "steps", "kinds", "result", "recipe", "lines", "step", "text", "back", "way", "place", "bad", "due", "turn", "error", "numbers", "at"] ["script"] (defScope st_law) := ⟨rfl, rfl, rfl, by decide +kernel, rfl, by decide +kernel, by decide +kernel⟩
theorem c_law {f : Addr} {fd : FuncData} (T : Txt K mg A_Ratio A_Recipe A_InvalidRecipe A_ZeroDivisor A_InvalidNumber A_WrongKind a_NEW_WORDS a_PAIRS a__POWERS) {f__law_number : Addr} {fd__law_number : FuncData} (C__law_number : Cal P w K mg base (L2.CX P w) 2 "_law_number" ["script", "k"] m__law_number f__law_number fd__law_number) {f__law_letters : Addr} {fd__law_letters : FuncData} (C__law_letters : Cal P w K mg base (L2.CX P w) 1 "_law_letters" ["number", "many"] m__law_letters f__law_letters fd__law_letters) {f__law_steps : Addr} {fd__law_steps : FuncData} (C__law_steps : Cal P w K mg base (L2.CX P w) 2 "_law_steps" ["number", "letters", "many", "most", "backs", "size"] m__law_steps f__law_steps fd__law_steps) {f_Recipe__init : Addr} {fd_Recipe__init : FuncData} (C_Recipe__init : CalI P w K mg base (L2N.CX P w) 3 "Recipe" ["self", "letters", "steps", "result"] m_Recipe__init A_Recipe f_Recipe__init fd_Recipe__init) {f__law_given : Addr} {fd__law_given : FuncData} (C__law_given : Cal P w K mg base (L2N.CX P w) 3 "_law_given" ["steps"] m__law_given f__law_given fd__law_given) {f__law_line : Addr} {fd__law_line : FuncData} (C__law_line : Cal P w K mg base (L2.CX P w) 4 "_law_line" ["step"] m__law_line f__law_line fd__law_line) {f_read_recipe : Addr} {fd_read_recipe : FuncData} (C_read_recipe : Cal P w K mg base (L2.CX P w) 6 "read_recipe" ["text"] m_read_recipe f_read_recipe fd_read_recipe) {f_show_recipe : Addr} {fd_show_recipe : FuncData} (C_show_recipe : Cal P w K mg base (L2.CX P w) 4 "show_recipe" ["recipe"] m_show_recipe f_show_recipe fd_show_recipe) {f_Recipe__eq : Addr} {fd_Recipe__eq : FuncData} (C_Recipe__eq : CalO P w K mg base 4 "Recipe" "__eq__" ["self", "other"] m_Recipe__eq A_Recipe f_Recipe__eq fd_Recipe__eq) {p_Recipe__is_plain f_Recipe__is_plain : Addr} {fd_Recipe__is_plain : FuncData} (C_Recipe__is_plain : CalP P w K mg base 1 "Recipe" "is_plain" ["self"] m_Recipe__is_plain A_Recipe p_Recipe__is_plain f_Recipe__is_plain fd_Recipe__is_plain) {f__law_bad_line : Addr} {fd__law_bad_line : FuncData} (C__law_bad_line : Cal P w K mg base (L2.CX P w) 1 "_law_bad_line" ["way", "at", "kinds"] m__law_bad_line f__law_bad_line fd__law_bad_line) (Fu : Fun K "law" "law" st_law f fd) : FnOk P w K mg base (L2.CX P w) 7 f fd ["script"] (spD ⟨K, mg, none, none⟩ m_law) :=
  okD (k := 6) Fu sc_law rfl rfl (by decide) fun cdv A outer s H E hr => by exact ((dss_cons (ds_set 1 sc_law.nd (de_callC C__law_number ⟨rfl, rfl⟩ (hr.mono (by decide)) rfl (lets (takes_of rfl rfl rfl rfl)) (da_cons (de_var 0) (da_cons de_int da_nil))))
    (dss_cons (ds_set 2 sc_law.nd (de_callC C__law_letters ⟨rfl, rfl⟩ (hr.mono (by decide)) rfl (lets (takes_of rfl rfl rfl rfl)) (da_cons (de_var 1) (da_cons (de_bin opd_mod (de_cty cbd_int rfl T.n_int (by decide +kernel) (da_cons (de_bin opd_fdiv (de_var 1) de_int) da_nil)) de_int) da_nil))))
    (dss_cons (ds_set 3 sc_law.nd (de_bin (opd_add rfl) de_int (de_bin opd_mod (de_cty cbd_int rfl T.n_int (by decide +kernel) (da_cons (de_bin opd_fdiv (de_var 1) de_int) da_nil)) de_int)))
    (dss_cons (ds_tg (de_callC C__law_steps ⟨rfl, rfl⟩ (hr.mono (by decide)) rfl (lets (takes_of rfl rfl rfl rfl)) (da_cons (de_callC C__law_number ⟨rfl, rfl⟩ (hr.mono (by decide)) rfl (lets (takes_of rfl rfl rfl rfl)) (da_cons (de_var 0) (da_cons de_int da_nil))) (da_cons (de_var 2) (da_cons (de_bin opd_mod (de_cty cbd_int rfl T.n_int (by decide +kernel) (da_cons (de_bin opd_fdiv (de_var 1) de_int) da_nil)) de_int) (da_cons de_int (da_cons de_int (da_cons (de_var 3) da_nil))))))) (pg_tup rfl (pgs_cons (pg_name sc_law.nd rfl (by first | exact Or.inl rfl | exact Or.inr rfl)) (pgs_cons (pg_name sc_law.nd rfl (by first | exact Or.inl rfl | exact Or.inr rfl)) pgs_nil))) (trg_tup false ⟨rfl, rfl⟩ (trgs_cons 4 (trgs_cons 5 trgs_nil))))
    (dss_cons (ds_set 6 sc_law.nd (de_bin opd_mod (de_cty cbd_int rfl T.n_int (by decide +kernel) (da_cons (de_bin opd_fdiv (de_var 1) de_int) da_nil)) (de_cb (cbd_len rfl) rfl T.n_len (by decide +kernel) (da_cons (de_var 4) da_nil))))
    (dss_cons (ds_set 7 sc_law.nd (de_newI C_Recipe__init ⟨rfl, rfl⟩ (hr.mono (by decide)) rfl (letsM (takes_of rfl rfl rfl rfl)) (da_cons (de_join ⟨rfl, rfl⟩ de_str (de_var 2)) (da_cons (de_callC C__law_given ⟨rfl, rfl⟩ (hr.mono (by decide)) rfl (letsM (takes_of rfl rfl rfl rfl)) (da_cons (de_var 4) da_nil)) (da_cons (de_var 6) da_nil)))))
    (dss_cons (ds_set 8 sc_law.nd (de_lst (da_cons (de_bin (opd_add rfl) de_str (de_join ⟨rfl, rfl⟩ de_str (de_var 2))) da_nil)))
    (dss_cons (ds_if (dt_cmp (opd_eq rfl hr.units) (de_cb (cbd_len rfl) rfl T.n_len (by decide +kernel) (da_cons (de_var 2) da_nil)) de_int) (dss_one (ds_set 8 sc_law.nd (de_lst (da_cons de_str da_nil)))) dss_nil)
    (dss_cons (ds_set 8 sc_law.nd (de_bin (opd_add rfl) (de_bin (opd_add rfl) (de_var 8) (de_lc rfl sc_law.nd (pi_seq (de_var 4)) (tri_seq ⟨rfl, rfl⟩) (blkOk_by (own := [("step", 9)]) (by exact rfl)) (fun _ _ _ _ _ => (pg_name sc_law.nd rfl (by first | exact Or.inl rfl | exact Or.inr rfl))) (trg_name 9) (gl_name (by decide)) (fun _ _ _ _ _ => dts_nil) (fun _ _ _ _ _ => (de_callC C__law_line ⟨rfl, rfl⟩ (hr.mono (by decide)) rfl (lets takes0) (da_cons (de_var 9) da_nil))))) (de_lst (da_cons (de_bin (opd_add rfl) de_str (de_cty cbd_strT rfl T.n_str (by decide +kernel) (da_cons (de_var 6) da_nil))) da_nil))))
    (dss_cons (ds_set 10 sc_law.nd (de_join ⟨rfl, rfl⟩ de_str (de_var 8)))
    (dss_cons (ds_set 11 sc_law.nd (de_callC C_read_recipe ⟨rfl, rfl⟩ (hr.mono (by decide)) rfl (lets (takes_of rfl rfl rfl rfl)) (da_cons (de_var 10) da_nil)))
    (dss_cons (ds_if (L2.PW.pt (dw_or (dt_cmp (opd_ne rfl hr.units) (de_callC C_show_recipe ⟨rfl, rfl⟩ (hr.mono (by decide)) rfl (lets (takes_of rfl rfl rfl rfl)) (da_cons (de_var 7) da_nil)) (de_var 10)) (dw_or (dt_not (dt_cmpX (opd_eq rfl hr.units) (ops_alikeC (fun _ _ => rfl) C_Recipe__eq ⟨rfl, rfl⟩ (hr.mono (by decide)) rfl) (de_var 11) (de_var 7))) (dw_or (dt_cmp (opd_ne rfl hr.units) (de_cty (cbd_list rfl) rfl T.n_list (by decide +kernel) (da_cons (de_fld ⟨rfl, rfl⟩ (fldOk1 T.x_Recipe T.cl_Recipe T.no_Recipe_kinds) (de_var 7)) da_nil)) (de_var 5)) (dw_or1 (dt_cmp (opd_ne rfl hr.units) (de_fld ⟨rfl, rfl⟩ (fldOk1 T.x_Recipe T.cl_Recipe T.no_Recipe_kinds) (de_var 11)) (de_fld ⟨rfl, rfl⟩ (fldOk1 T.x_Recipe T.cl_Recipe T.no_Recipe_kinds) (de_var 7)))))))) (dss_one (ds_ret de_bl)) dss_nil)
    (dss_cons (ds_if (L2.PW.pt (dw_or (dt_cmp (opd_ne rfl hr.units) (de_fld ⟨rfl, rfl⟩ (fldOk1 T.x_Recipe T.cl_Recipe T.no_Recipe_kind) (de_var 7)) (de_ix (ixd rfl) (de_var 5) (de_var 6))) (dw_or (dt_cmp (opd_ne rfl hr.units) (de_fld ⟨rfl, rfl⟩ (fldOk1 T.x_Recipe T.cl_Recipe T.no_Recipe_letters) (de_var 11)) (de_join ⟨rfl, rfl⟩ de_str (de_var 2))) (dw_or (dt_cmp (opd_ne rfl hr.units) (de_fld ⟨rfl, rfl⟩ (fldOk1 T.x_Recipe T.cl_Recipe T.no_Recipe_result) (de_var 11)) (de_var 6)) (dw_or1 (dt_cmp (opd_ne rfl hr.units) (de_cb (cbd_len rfl) rfl T.n_len (by decide +kernel) (da_cons (de_fld ⟨rfl, rfl⟩ (fldOk1 T.x_Recipe T.cl_Recipe T.no_Recipe_steps) (de_var 11)) da_nil)) (de_cb (cbd_len rfl) rfl T.n_len (by decide +kernel) (da_cons (de_var 4) da_nil)))))))) (dss_one (ds_ret de_bl)) dss_nil)
    (dss_cons (ds_if (dt_cmp (opd_ne rfl hr.units) (de_prop C_Recipe__is_plain ⟨rfl, rfl⟩ (hr.mono (by decide)) (de_var 7)) (de_cmp (opd_eq rfl hr.units) (de_cb (cbd_len rfl) rfl T.n_len (by decide +kernel) (da_cons (de_lc rfl sc_law.nd (pi_seq (de_var 4)) (tri_seq ⟨rfl, rfl⟩) (blkOk_by (own := [("step", 9)]) (by exact rfl)) (fun _ _ _ _ _ => (pg_name sc_law.nd rfl (by first | exact Or.inl rfl | exact Or.inr rfl))) (trg_name 9) (gl_name (by decide)) (fun _ _ _ _ _ => (dts_one (dt_cmp (opd_in rfl) (de_ix (ixd rfl) (de_var 9) de_int) (de_lst (da_cons de_str (da_cons de_str (da_cons de_str da_nil))))))) (fun _ _ _ _ _ => (de_var 9))) da_nil)) de_int)) (dss_one (ds_ret de_bl)) dss_nil)
    (dss_cons (ds_set 12 sc_law.nd (de_bin opd_mod (de_cty cbd_int rfl T.n_int (by decide +kernel) (da_cons (de_bin opd_fdiv (de_var 1) (de_bin opd_pow de_int de_int)) da_nil)) de_int))
    (dss_cons (ds_set 13 sc_law.nd (de_bin (opd_add rfl) de_int (de_bin opd_mod (de_cty cbd_int rfl T.n_int (by decide +kernel) (da_cons (de_bin opd_fdiv (de_var 1) (de_bin opd_pow de_int de_int)) da_nil)) (de_cb (cbd_len rfl) rfl T.n_len (by decide +kernel) (da_cons (de_var 4) da_nil)))))
    (dss_cons (ds_set 14 sc_law.nd (de_cty (cbd_list rfl) rfl T.n_list (by decide +kernel) (da_cons (de_var 8) da_nil)))
    (dss_cons (ds_set 15 sc_law.nd (de_bin (opd_add rfl) (de_var 13) de_int))
    (dss_cons (ds_if (dt_cmp (opd_eq rfl hr.units) (de_var 12) de_int) (dss_cons (ds_set 14 sc_law.nd (de_sl (sld rfl) (de_var 8) dp_no (dp_e (de_bin opd_sub (de_cb (cbd_len rfl) rfl T.n_len (by decide +kernel) (da_cons (de_var 8) da_nil)) de_int))))
    (dss_one (ds_set 15 sc_law.nd (de_cb (cbd_len rfl) rfl T.n_len (by decide +kernel) (da_cons (de_var 8) da_nil))))) (dss_one (ds_if (dt_cmp (opd_eq rfl hr.units) (de_var 12) de_int) (dss_cons (ds_set 14 sc_law.nd (de_bin (opd_add rfl) (de_var 8) (de_lst (da_cons de_str da_nil))))
    (dss_one (ds_set 15 sc_law.nd (de_bin (opd_add rfl) (de_cb (cbd_len rfl) rfl T.n_len (by decide +kernel) (da_cons (de_var 8) da_nil)) de_int)))) (dss_one (ds_if (dt_cmp (opd_eq rfl hr.units) (de_var 12) de_int) (dss_cons (ds_put 14 (pv 14) de_int (de_bin (opd_add rfl) de_str de_str))
    (dss_one (ds_set 15 sc_law.nd de_int))) (dss_one (ds_if (dt_cmp (opd_eq rfl hr.units) (de_var 12) de_int) (dss_cons (ds_put 14 (pv 14) de_int de_str)
    (dss_one (ds_set 15 sc_law.nd de_int))) (dss_one (ds_put 14 (pv 14) (de_var 13) (de_callC C__law_bad_line ⟨rfl, rfl⟩ (hr.mono (by decide)) rfl (lets (takes_of rfl rfl rfl rfl)) (da_cons (de_var 12) (da_cons (de_bin opd_sub (de_var 13) de_int) (da_cons (de_var 5) da_nil)))))))))))))
    (dss_cons (ds_for (passes_of rfl) rfl (pi_range1 rfl T.n_range (da_cons de_int da_nil)) tri_r1 (pg_name sc_law.nd rfl (by first | exact Or.inl rfl | exact Or.inr rfl)) (trg_name 16) (dss_cons (ds_if (L2.PW.pt (dw_and (dt_cmp (opd_eq rfl hr.units) (de_var 16) de_int) (dw_and1 (dt_cmp opd_lt (de_var 15) (de_bin opd_sub (de_cb (cbd_len rfl) rfl T.n_len (by decide +kernel) (da_cons (de_var 8) da_nil)) de_int))))) (dss_one (ds_put 14 (pv 14) (de_bin opd_sub (de_cb (cbd_len rfl) rfl T.n_len (by decide +kernel) (da_cons (de_var 8) da_nil)) de_int) de_str)) dss_nil)
    (dss_one (ds_try 17 rfl ⟨rfl, rfl⟩ rfl rfl sc_law.nd rfl rfl ⟨rfl, by decide, Or.inl T.x_InvalidRecipe⟩ (takes_of rfl rfl rfl rfl) T.sub_InvalidRecipe
    (fun W1 pn1 xe1 tk1 po1 => (dss_cons (ds_drop (de_callC C_read_recipe ⟨rfl, rfl⟩ (hr.mono (by decide)) rfl (lets tk1) (da_cons (de_join ⟨rfl, rfl⟩ de_str (de_var 14)) da_nil)))
    (dss_one (ds_ret de_bl))))
    (fun ax oe clsx dx pnx hz hfl => (dss_one (ds_if (dt_cmp (opd_ne rfl hr.units) (de_xf 17 ⟨rfl, rfl⟩ hz hfl T.xf_line rfl (Or.inl rfl)) (de_var 15)) (dss_one (ds_ret de_bl)) dss_nil)))))))
    (dss_cons (ds_setLc 18 rfl sc_law.nd rfl rfl (sw_true rfl rfl rfl rfl) (pi_range1 rfl T.n_range (da_cons (de_cb (cbd_len rfl) rfl T.n_len (by decide +kernel) (da_cons (de_var 4) da_nil)) da_nil)) tri_r1 (blkOk_by (own := [("at", 19)]) (by exact rfl)) (fun _ _ _ _ _ => (pg_name sc_law.nd rfl (by first | exact Or.inl rfl | exact Or.inr rfl))) (trg_name 19) (gl_name (by decide)) (fun _ _ _ _ _ => (dts_one (dt_cmp (opd_eq rfl hr.units) (de_ix (ixd rfl) (de_var 5) (de_var 19)) de_str))) (fun _ _ _ _ _ => (de_var 19)))
    (dss_cons (ds_if (dt_cmp (opd_eq rfl hr.units) (de_cb (cbd_len rfl) rfl T.n_len (by decide +kernel) (da_cons (de_var 18) da_nil)) de_int) (dss_one (ds_ret de_bl)) dss_nil)
    (dss_cons (ds_tryX ⟨rfl, rfl⟩ rfl rfl ⟨rfl, by decide, Or.inl T.x_WrongKind⟩ (fun hd => L2H.passesAt_of rfl hd) (takes_of rfl rfl rfl rfl) T.sub_WrongKind
    (fun W1 pn1 xe1 tk1 po1 => (dss_one (ds_drop (de_newI C_Recipe__init ⟨rfl, rfl⟩ (hr.mono (by decide)) rfl (letsN tk1) (da_cons (de_join ⟨rfl, rfl⟩ de_str (de_var 2)) (da_cons (de_bin (opd_add rfl) (de_callC C__law_given ⟨rfl, rfl⟩ (hr.mono (by decide)) rfl (letsN tk1) (da_cons (de_var 4) da_nil)) (de_lst (da_cons (de_tup (da_cons (de_ix (ixd rfl) (de_lst (da_cons de_str (da_cons de_str (da_cons de_str da_nil)))) (de_bin opd_mod (de_cty cbd_int rfl T.n_int (by decide +kernel) (da_cons (de_var 12) da_nil)) de_int)) (da_cons (de_ix (ixd rfl) (de_var 18) de_int) da_nil))) da_nil))) (da_cons de_int da_nil)))))))
    (fun ax oe pnx tkS hot => (dss_one (ds_ret de_bl))))
    (dss_one (ds_ret de_bl))))))))))))))))))))))))))
end
end DP

namespace DP
open PySem L2
theorem kit_self {K : PySem.W.Frag} {C : Addr} : PySem.W.kitOne K (.ref C) (.ref C) = some true := by
  unfold PySem.W.kitOne PySem.W.kitCls
  rw [if_pos
      (beq_self_eq_true _)]
theorem all_k27 {P : Program} {w : World} {K : PySem.W.Frag} {h : Heap} {mg : Str → Option Value} {fa : Addr} (X : K.In h) (G : h.Ns mainGlobals mg) (hfa : mg "law" = some (.ref fa))
    {A_TableError A_Ratio A_Recipe A_InvalidRecipe A_ZeroDivisor A_InvalidNumber A_WrongKind a_NEW_WORDS a_PAIRS a__POWERS f_Ratio__init f_Ratio__eq f_Ratio__str f_natural f_step_kind f_Recipe__eq f_Recipe__is_plain f_kind_of_step f_show_recipe f__read_letters f__read_index f__law_cell f__law_number f__law_step f__law_given f__law_letters f__law_line f__law_bad_line f_Ratio__read f_Recipe__init f__read_ratio f__read_step f__law_steps f_read_recipe f_law f_InvalidRecipe__init p_Recipe__is_plain p_Ratio__read D_Ratio__init : Addr} {od_Ratio__init an_Ratio__init od_Ratio__eq an_Ratio__eq od_Ratio__str an_Ratio__str od_natural an_natural od_step_kind an_step_kind od_Recipe__eq an_Recipe__eq od_Recipe__is_plain an_Recipe__is_plain od_kind_of_step an_kind_of_step od_show_recipe an_show_recipe od__read_letters an__read_letters od__read_index an__read_index od__law_cell an__law_cell od__law_number an__law_number od__law_step an__law_step od__law_given an__law_given od__law_letters an__law_letters od__law_line an__law_line od__law_bad_line an__law_bad_line od_Ratio__read an_Ratio__read od_Recipe__init an_Recipe__init od__read_ratio an__read_ratio od__read_step an__read_step od__law_steps an__law_steps od_read_recipe an_read_recipe od_law an_law od_InvalidRecipe__init an_InvalidRecipe__init dD_Ratio__init : Option Addr} {sl_Ratio__init sl_Ratio__eq sl_Ratio__str sl_natural sl_step_kind sl_Recipe__eq sl_Recipe__is_plain sl_kind_of_step sl_show_recipe sl__read_letters sl__read_index sl__law_cell sl__law_number sl__law_step sl__law_given sl__law_letters sl__law_line sl__law_bad_line sl_Ratio__read sl_Recipe__init sl__read_ratio sl__read_step sl__law_steps sl_read_recipe sl_law sl_InvalidRecipe__init sl_NEW_WORDS sl_PAIRS sl__POWERS sD_Ratio__init : Array (Option Value)} {oc_Ratio__init kV_Ratio__init dc_Ratio__init pm_Ratio__init cd_Ratio__init ct_Ratio__init oc_Ratio__eq kV_Ratio__eq dc_Ratio__eq pm_Ratio__eq cd_Ratio__eq ct_Ratio__eq oc_Ratio__str kV_Ratio__str dc_Ratio__str pm_Ratio__str cd_Ratio__str ct_Ratio__str oc_natural kV_natural dc_natural pm_natural cd_natural ct_natural oc_step_kind kV_step_kind dc_step_kind pm_step_kind cd_step_kind ct_step_kind oc_Recipe__eq kV_Recipe__eq dc_Recipe__eq pm_Recipe__eq cd_Recipe__eq ct_Recipe__eq oc_Recipe__is_plain kV_Recipe__is_plain dc_Recipe__is_plain pm_Recipe__is_plain cd_Recipe__is_plain ct_Recipe__is_plain oc_kind_of_step kV_kind_of_step dc_kind_of_step pm_kind_of_step cd_kind_of_step ct_kind_of_step oc_show_recipe kV_show_recipe dc_show_recipe pm_show_recipe cd_show_recipe ct_show_recipe oc__read_letters kV__read_letters dc__read_letters pm__read_letters cd__read_letters ct__read_letters oc__read_index kV__read_index dc__read_index pm__read_index cd__read_index ct__read_index oc__law_cell kV__law_cell dc__law_cell pm__law_cell cd__law_cell ct__law_cell oc__law_number kV__law_number dc__law_number pm__law_number cd__law_number ct__law_number oc__law_step kV__law_step dc__law_step pm__law_step cd__law_step ct__law_step oc__law_given kV__law_given dc__law_given pm__law_given cd__law_given ct__law_given oc__law_letters kV__law_letters dc__law_letters pm__law_letters cd__law_letters ct__law_letters oc__law_line kV__law_line dc__law_line pm__law_line cd__law_line ct__law_line oc__law_bad_line kV__law_bad_line dc__law_bad_line pm__law_bad_line cd__law_bad_line ct__law_bad_line oc_Ratio__read kV_Ratio__read dc_Ratio__read pm_Ratio__read cd_Ratio__read ct_Ratio__read oc_Recipe__init kV_Recipe__init dc_Recipe__init pm_Recipe__init cd_Recipe__init ct_Recipe__init oc__read_ratio kV__read_ratio dc__read_ratio pm__read_ratio cd__read_ratio ct__read_ratio oc__read_step kV__read_step dc__read_step pm__read_step cd__read_step ct__read_step oc__law_steps kV__law_steps dc__law_steps pm__law_steps cd__law_steps ct__law_steps oc_read_recipe kV_read_recipe dc_read_recipe pm_read_recipe cd_read_recipe ct_read_recipe oc_law kV_law dc_law pm_law cd_law ct_law oc_InvalidRecipe__init kV_InvalidRecipe__init dc_InvalidRecipe__init pm_InvalidRecipe__init cd_InvalidRecipe__init ct_InvalidRecipe__init oD_Ratio__init : Value} {tk_NEW_WORDS_0 tk_NEW_WORDS_1 tk_NEW_WORDS_2 nn_NEW_WORDS tk_PAIRS_0 tk_PAIRS_1 tk_PAIRS_2 nn_PAIRS tk__POWERS_0 tk__POWERS_1 tk__POWERS_2 tk__POWERS_3 tk__POWERS_4 tk__POWERS_5 tk__POWERS_6 nn__POWERS tk_LOWER_CASE tk_DIGITS tk_MOST_DIGITS tk_MOST_RECIPE_STEPS tk_MOST_RECIPE_LETTERS nD_Ratio__init tD_Ratio__init : Nat} {rs_Recipe__is_plain rs_Ratio__read : List Value}
    {xnm xq : _} {xN : _} {xbs : _} {xsn : _} {xsub : _} {xab : _} {xcol : _} {xdd : _} {xk0 xk1 xk2 xk3 xk5 : _}
    (b_abs : PySem.W.nsIn K mainGlobals "abs" = some none)
    (b_any : PySem.W.nsIn K mainGlobals "any" = some none)
    (b_enumerate : PySem.W.nsIn K mainGlobals "enumerate" = some none)
    (b_int : PySem.W.nsIn K mainGlobals "int" = some none)
    (b_isinstance : PySem.W.nsIn K mainGlobals "isinstance" = some none)
    (b_len : PySem.W.nsIn K mainGlobals "len" = some none)
    (b_list : PySem.W.nsIn K mainGlobals "list" = some none)
    (b_max : PySem.W.nsIn K mainGlobals "max" = some none)
    (b_range : PySem.W.nsIn K mainGlobals "range" = some none)
    (b_set : PySem.W.nsIn K mainGlobals "set" = some none)
    (b_str : PySem.W.nsIn K mainGlobals "str" = some none)
    (b_tuple : PySem.W.nsIn K mainGlobals "tuple" = some none)
    (g_gcd : PySem.W.nsIn K mainGlobals "gcd" = some (some (.builtin "math.gcd")))
    (g_NEW_WORDS : PySem.W.nsIn K mainGlobals "NEW_WORDS" = some (some (.ref a_NEW_WORDS)))
    (l_NEW_WORDS : K.lookup a_NEW_WORDS = some ⟨.type "tuple", none, .seq #[.str "transpose" tk_NEW_WORDS_0, .str "inverse" tk_NEW_WORDS_1, .str "det" tk_NEW_WORDS_2] nn_NEW_WORDS, sl_NEW_WORDS⟩)
    (g_PAIRS : PySem.W.nsIn K mainGlobals "PAIRS" = some (some (.ref a_PAIRS)))
    (l_PAIRS : K.lookup a_PAIRS = some ⟨.type "tuple", none, .seq #[.str "sum" tk_PAIRS_0, .str "diff" tk_PAIRS_1, .str "times" tk_PAIRS_2] nn_PAIRS, sl_PAIRS⟩)
    (g__POWERS : PySem.W.nsIn K mainGlobals "_POWERS" = some (some (.ref a__POWERS)))
    (l__POWERS : K.lookup a__POWERS = some ⟨.type "tuple", none, .seq #[.str "0" tk__POWERS_0, .str "1" tk__POWERS_1, .str "2" tk__POWERS_2, .str "3" tk__POWERS_3, .str "4" tk__POWERS_4, .str "5" tk__POWERS_5, .str "6" tk__POWERS_6] nn__POWERS, sl__POWERS⟩)
    (g_LOWER_CASE : PySem.W.nsIn K mainGlobals "LOWER_CASE" = some (some (.str "abcdefghijklmnopqrstuvwxyz" tk_LOWER_CASE)))
    (g_DIGITS : PySem.W.nsIn K mainGlobals "DIGITS" = some (some (.str "0123456789" tk_DIGITS)))
    (g_MOST_DIGITS : PySem.W.nsIn K mainGlobals "MOST_DIGITS" = some (some (.int 60 tk_MOST_DIGITS)))
    (g_MOST_RECIPE_STEPS : PySem.W.nsIn K mainGlobals "MOST_RECIPE_STEPS" = some (some (.int 480 tk_MOST_RECIPE_STEPS)))
    (g_MOST_RECIPE_LETTERS : PySem.W.nsIn K mainGlobals "MOST_RECIPE_LETTERS" = some (some (.int 6 tk_MOST_RECIPE_LETTERS)))
    (g_TableError : PySem.W.nsIn K mainGlobals "TableError" = some (some (.ref A_TableError)))
    (g_ZeroDivisor : PySem.W.nsIn K mainGlobals "ZeroDivisor" = some (some (.ref A_ZeroDivisor)))
    (q_ZeroDivisor : PySem.W.excIn K A_ZeroDivisor [.type "ValueError", .type "Exception", .type "BaseException", .type "object"] "ValueError.__new__" = true)
    (k_ZeroDivisor : PySem.W.keepIn K (.ref A_ZeroDivisor) = true)
    (b_ZeroDivisor : PySem.W.subIn K (.ref A_ZeroDivisor) (.type "BaseException") = some true)
    (t_ZeroDivisor : PySem.W.typeIn K (.ref A_ZeroDivisor) = some (.type "type"))
    (i_ZeroDivisor : PySem.W.isClsIn K A_ZeroDivisor = true)
    (s_ZeroDivisor : PySem.W.subIn K (.ref A_ZeroDivisor) (.ref A_ZeroDivisor) = some true)
    (g_InvalidNumber : PySem.W.nsIn K mainGlobals "InvalidNumber" = some (some (.ref A_InvalidNumber)))
    (q_InvalidNumber : PySem.W.excIn K A_InvalidNumber [.type "ValueError", .type "Exception", .type "BaseException", .type "object"] "ValueError.__new__" = true)
    (k_InvalidNumber : PySem.W.keepIn K (.ref A_InvalidNumber) = true)
    (b_InvalidNumber : PySem.W.subIn K (.ref A_InvalidNumber) (.type "BaseException") = some true)
    (t_InvalidNumber : PySem.W.typeIn K (.ref A_InvalidNumber) = some (.type "type"))
    (i_InvalidNumber : PySem.W.isClsIn K A_InvalidNumber = true)
    (s_InvalidNumber : PySem.W.subIn K (.ref A_InvalidNumber) (.ref A_InvalidNumber) = some true)
    (g_WrongKind : PySem.W.nsIn K mainGlobals "WrongKind" = some (some (.ref A_WrongKind)))
    (q_WrongKind : PySem.W.excIn K A_WrongKind [.type "ValueError", .type "Exception", .type "BaseException", .type "object"] "ValueError.__new__" = true)
    (k_WrongKind : PySem.W.keepIn K (.ref A_WrongKind) = true)
    (b_WrongKind : PySem.W.subIn K (.ref A_WrongKind) (.type "BaseException") = some true)
    (t_WrongKind : PySem.W.typeIn K (.ref A_WrongKind) = some (.type "type"))
    (i_WrongKind : PySem.W.isClsIn K A_WrongKind = true)
    (s_WrongKind : PySem.W.subIn K (.ref A_WrongKind) (.ref A_WrongKind) = some true)
    (g_InvalidRecipe : PySem.W.nsIn K mainGlobals "InvalidRecipe" = some (some (.ref A_InvalidRecipe)))
    (k_InvalidRecipe : PySem.W.keepIn K (.ref A_InvalidRecipe) = true)
    (b_InvalidRecipe : PySem.W.subIn K (.ref A_InvalidRecipe) (.type "BaseException") = some true)
    (t_InvalidRecipe : PySem.W.typeIn K (.ref A_InvalidRecipe) = some (.type "type"))
    (i_InvalidRecipe : PySem.W.isClsIn K A_InvalidRecipe = true)
    (s_InvalidRecipe : PySem.W.subIn K (.ref A_InvalidRecipe) (.ref A_InvalidRecipe) = some true)
    (xL : K.lookup A_InvalidRecipe = some (excClassObj xnm xq A_InvalidRecipe xN xbs [.ref A_TableError, .type "ValueError", .type "Exception", .type "BaseException", .type "object"] true xsn xsub xab xcol xdd xk0 xk1 xk2 xk3 xk5 "ValueError.__new__"))
    (x_sa : PySem.W.findIn K (.ref A_InvalidRecipe) "__setattr__" = some (some (.builtin "object.__setattr__")))
    (x_no : PySem.W.findIn K (.ref A_InvalidRecipe) "line" = some none)
    (x_i : PySem.W.findIn K (.ref A_InvalidRecipe) "__init__" = some (some (.ref f_InvalidRecipe__init)))
    (x_t : PySem.W.typeIn K (.ref f_InvalidRecipe__init) = some (.type "function"))
    (x_ga : PySem.W.findIn K (.ref A_InvalidRecipe) "__getattribute__" = some (some (.builtin "BaseException.__getattribute__")))
    (x_gg : PySem.W.findIn K (.ref A_InvalidRecipe) "__getattr__" = some none)
    (x_hd : PySem.W.hasDictIn K A_InvalidRecipe = true)
    (g_Ratio : PySem.W.nsIn K mainGlobals "Ratio" = some (some (.ref A_Ratio)))
    (pg_Ratio : PySem.W.plainGet K A_Ratio Str.empty = true)
    (hd_Ratio : PySem.W.hasDictIn K A_Ratio = true)
    (po_Ratio : PySem.W.plainOver K A_Ratio = true)
    (sa_Ratio : PySem.W.findIn K (.ref A_Ratio) "__setattr__" = some (some (.builtin "object.__setattr__")))
    (ha_Ratio : PySem.W.findIn K (.ref A_Ratio) "__class__" = some (some (.builtin "object.__class__")))
    (hm_Ratio : PySem.W.mroIn K A_Ratio (.type "object") = some true)
    (mk_Ratio : PySem.W.makesIn K A_Ratio = true)
    (kc_Ratio : PySem.W.keepIn K (.ref A_Ratio) = true)
    (sf_Ratio : PySem.W.selfFirst K A_Ratio = true)
    (g_Recipe : PySem.W.nsIn K mainGlobals "Recipe" = some (some (.ref A_Recipe)))
    (pg_Recipe : PySem.W.plainGet K A_Recipe Str.empty = true)
    (hd_Recipe : PySem.W.hasDictIn K A_Recipe = true)
    (po_Recipe : PySem.W.plainOver K A_Recipe = true)
    (sa_Recipe : PySem.W.findIn K (.ref A_Recipe) "__setattr__" = some (some (.builtin "object.__setattr__")))
    (ha_Recipe : PySem.W.findIn K (.ref A_Recipe) "__class__" = some (some (.builtin "object.__class__")))
    (hm_Recipe : PySem.W.mroIn K A_Recipe (.type "object") = some true)
    (mk_Recipe : PySem.W.makesIn K A_Recipe = true)
    (kc_Recipe : PySem.W.keepIn K (.ref A_Recipe) = true)
    (sf_Recipe : PySem.W.selfFirst K A_Recipe = true)
    (hn : PySem.W.specialIn K (.builtin "object.__class__") "__get__" = some (some (.builtin "getset_descriptor.__get__")))
    (ht : PySem.W.takesIn K (.builtin "object.__class__") = some true)
    (no_Ratio_num : PySem.W.findIn K (.ref A_Ratio) "num" = some none)
    (no_Ratio_den : PySem.W.findIn K (.ref A_Ratio) "den" = some none)
    (no_Recipe_letters : PySem.W.findIn K (.ref A_Recipe) "letters" = some none)
    (no_Recipe_steps : PySem.W.findIn K (.ref A_Recipe) "steps" = some none)
    (no_Recipe_kinds : PySem.W.findIn K (.ref A_Recipe) "kinds" = some none)
    (no_Recipe_result : PySem.W.findIn K (.ref A_Recipe) "result" = some none)
    (no_Recipe_kind : PySem.W.findIn K (.ref A_Recipe) "kind" = some none)
    (at_Ratio__init : PySem.W.findIn K (.ref A_Ratio) "__init__" = some (some (.ref f_Ratio__init)))
    (fn_Ratio__init : PySem.W.isFn K (.ref f_Ratio__init) = true)
    (l_Ratio__init : K.lookup f_Ratio__init = some ⟨oc_Ratio__init, od_Ratio__init, .func (PySem.W.fnOf "__init__" "Ratio.__init__" (defArgs st_Ratio__init) (defBody st_Ratio__init) (defScope st_Ratio__init) (.ref D_Ratio__init) kV_Ratio__init dc_Ratio__init pm_Ratio__init an_Ratio__init cd_Ratio__init ct_Ratio__init), sl_Ratio__init⟩)
    (ld_Ratio__init : K.lookup D_Ratio__init = some ⟨oD_Ratio__init, dD_Ratio__init, .seq #[.int 1 tD_Ratio__init] nD_Ratio__init, sD_Ratio__init⟩)
    (c_Ratio__init : PySem.W.codeIn K cd_Ratio__init "Ratio.__init__" = true)
    (k_Ratio__init : PySem.W.keepIn K (.ref f_Ratio__init) = true)
    (at_Ratio__eq : PySem.W.findIn K (.ref A_Ratio) "__eq__" = some (some (.ref f_Ratio__eq)))
    (fn_Ratio__eq : PySem.W.isFn K (.ref f_Ratio__eq) = true)
    (l_Ratio__eq : K.lookup f_Ratio__eq = some ⟨oc_Ratio__eq, od_Ratio__eq, .func (PySem.W.fnOf "__eq__" "Ratio.__eq__" (defArgs st_Ratio__eq) (defBody st_Ratio__eq) (defScope st_Ratio__eq) .none kV_Ratio__eq dc_Ratio__eq pm_Ratio__eq an_Ratio__eq cd_Ratio__eq ct_Ratio__eq), sl_Ratio__eq⟩)
    (c_Ratio__eq : PySem.W.codeIn K cd_Ratio__eq "Ratio.__eq__" = true)
    (k_Ratio__eq : PySem.W.keepIn K (.ref f_Ratio__eq) = true)
    (at_Ratio__str : PySem.W.findIn K (.ref A_Ratio) "__str__" = some (some (.ref f_Ratio__str)))
    (fn_Ratio__str : PySem.W.isFn K (.ref f_Ratio__str) = true)
    (l_Ratio__str : K.lookup f_Ratio__str = some ⟨oc_Ratio__str, od_Ratio__str, .func (PySem.W.fnOf "__str__" "Ratio.__str__" (defArgs st_Ratio__str) (defBody st_Ratio__str) (defScope st_Ratio__str) .none kV_Ratio__str dc_Ratio__str pm_Ratio__str an_Ratio__str cd_Ratio__str ct_Ratio__str), sl_Ratio__str⟩)
    (c_Ratio__str : PySem.W.codeIn K cd_Ratio__str "Ratio.__str__" = true)
    (k_Ratio__str : PySem.W.keepIn K (.ref f_Ratio__str) = true)
    (a_natural : PySem.W.nsIn K mainGlobals "natural" = some (some (.ref f_natural)))
    (l_natural : K.lookup f_natural = some ⟨oc_natural, od_natural, .func (PySem.W.fnOf "natural" "natural" (defArgs st_natural) (defBody st_natural) (defScope st_natural) .none kV_natural dc_natural pm_natural an_natural cd_natural ct_natural), sl_natural⟩)
    (c_natural : PySem.W.codeIn K cd_natural "natural" = true)
    (k_natural : PySem.W.keepIn K (.ref f_natural) = true)
    (a_step_kind : PySem.W.nsIn K mainGlobals "step_kind" = some (some (.ref f_step_kind)))
    (l_step_kind : K.lookup f_step_kind = some ⟨oc_step_kind, od_step_kind, .func (PySem.W.fnOf "step_kind" "step_kind" (defArgs st_step_kind) (defBody st_step_kind) (defScope st_step_kind) .none kV_step_kind dc_step_kind pm_step_kind an_step_kind cd_step_kind ct_step_kind), sl_step_kind⟩)
    (c_step_kind : PySem.W.codeIn K cd_step_kind "step_kind" = true)
    (k_step_kind : PySem.W.keepIn K (.ref f_step_kind) = true)
    (at_Recipe__eq : PySem.W.findIn K (.ref A_Recipe) "__eq__" = some (some (.ref f_Recipe__eq)))
    (fn_Recipe__eq : PySem.W.isFn K (.ref f_Recipe__eq) = true)
    (l_Recipe__eq : K.lookup f_Recipe__eq = some ⟨oc_Recipe__eq, od_Recipe__eq, .func (PySem.W.fnOf "__eq__" "Recipe.__eq__" (defArgs st_Recipe__eq) (defBody st_Recipe__eq) (defScope st_Recipe__eq) .none kV_Recipe__eq dc_Recipe__eq pm_Recipe__eq an_Recipe__eq cd_Recipe__eq ct_Recipe__eq), sl_Recipe__eq⟩)
    (c_Recipe__eq : PySem.W.codeIn K cd_Recipe__eq "Recipe.__eq__" = true)
    (k_Recipe__eq : PySem.W.keepIn K (.ref f_Recipe__eq) = true)
    (at_Recipe__is_plain : PySem.W.findIn K (.ref A_Recipe) "is_plain" = some (some (.ref p_Recipe__is_plain)))
    (ge_Recipe__is_plain : PySem.W.specialIn K (.ref p_Recipe__is_plain) "__get__" = some (some (.builtin "property.__get__")))
    (ta_Recipe__is_plain : PySem.W.takesIn K (.ref p_Recipe__is_plain) = some true)
    (rc_Recipe__is_plain : PySem.W.recIn K p_Recipe__is_plain "property" = some (.ref f_Recipe__is_plain :: rs_Recipe__is_plain))
    (l_Recipe__is_plain : K.lookup f_Recipe__is_plain = some ⟨oc_Recipe__is_plain, od_Recipe__is_plain, .func (PySem.W.fnOf "is_plain" "Recipe.is_plain" (defArgs st_Recipe__is_plain) (defBody st_Recipe__is_plain) (defScope st_Recipe__is_plain) .none kV_Recipe__is_plain dc_Recipe__is_plain pm_Recipe__is_plain an_Recipe__is_plain cd_Recipe__is_plain ct_Recipe__is_plain), sl_Recipe__is_plain⟩)
    (c_Recipe__is_plain : PySem.W.codeIn K cd_Recipe__is_plain "Recipe.is_plain" = true)
    (k_Recipe__is_plain : PySem.W.keepIn K (.ref f_Recipe__is_plain) = true)
    (a_kind_of_step : PySem.W.nsIn K mainGlobals "kind_of_step" = some (some (.ref f_kind_of_step)))
    (l_kind_of_step : K.lookup f_kind_of_step = some ⟨oc_kind_of_step, od_kind_of_step, .func (PySem.W.fnOf "kind_of_step" "kind_of_step" (defArgs st_kind_of_step) (defBody st_kind_of_step) (defScope st_kind_of_step) .none kV_kind_of_step dc_kind_of_step pm_kind_of_step an_kind_of_step cd_kind_of_step ct_kind_of_step), sl_kind_of_step⟩)
    (c_kind_of_step : PySem.W.codeIn K cd_kind_of_step "kind_of_step" = true)
    (k_kind_of_step : PySem.W.keepIn K (.ref f_kind_of_step) = true)
    (a_show_recipe : PySem.W.nsIn K mainGlobals "show_recipe" = some (some (.ref f_show_recipe)))
    (l_show_recipe : K.lookup f_show_recipe = some ⟨oc_show_recipe, od_show_recipe, .func (PySem.W.fnOf "show_recipe" "show_recipe" (defArgs st_show_recipe) (defBody st_show_recipe) (defScope st_show_recipe) .none kV_show_recipe dc_show_recipe pm_show_recipe an_show_recipe cd_show_recipe ct_show_recipe), sl_show_recipe⟩)
    (c_show_recipe : PySem.W.codeIn K cd_show_recipe "show_recipe" = true)
    (k_show_recipe : PySem.W.keepIn K (.ref f_show_recipe) = true)
    (a__read_letters : PySem.W.nsIn K mainGlobals "_read_letters" = some (some (.ref f__read_letters)))
    (l__read_letters : K.lookup f__read_letters = some ⟨oc__read_letters, od__read_letters, .func (PySem.W.fnOf "_read_letters" "_read_letters" (defArgs st__read_letters) (defBody st__read_letters) (defScope st__read_letters) .none kV__read_letters dc__read_letters pm__read_letters an__read_letters cd__read_letters ct__read_letters), sl__read_letters⟩)
    (c__read_letters : PySem.W.codeIn K cd__read_letters "_read_letters" = true)
    (k__read_letters : PySem.W.keepIn K (.ref f__read_letters) = true)
    (a__read_index : PySem.W.nsIn K mainGlobals "_read_index" = some (some (.ref f__read_index)))
    (l__read_index : K.lookup f__read_index = some ⟨oc__read_index, od__read_index, .func (PySem.W.fnOf "_read_index" "_read_index" (defArgs st__read_index) (defBody st__read_index) (defScope st__read_index) .none kV__read_index dc__read_index pm__read_index an__read_index cd__read_index ct__read_index), sl__read_index⟩)
    (c__read_index : PySem.W.codeIn K cd__read_index "_read_index" = true)
    (k__read_index : PySem.W.keepIn K (.ref f__read_index) = true)
    (a__law_cell : PySem.W.nsIn K mainGlobals "_law_cell" = some (some (.ref f__law_cell)))
    (l__law_cell : K.lookup f__law_cell = some ⟨oc__law_cell, od__law_cell, .func (PySem.W.fnOf "_law_cell" "_law_cell" (defArgs st__law_cell) (defBody st__law_cell) (defScope st__law_cell) .none kV__law_cell dc__law_cell pm__law_cell an__law_cell cd__law_cell ct__law_cell), sl__law_cell⟩)
    (c__law_cell : PySem.W.codeIn K cd__law_cell "_law_cell" = true)
    (k__law_cell : PySem.W.keepIn K (.ref f__law_cell) = true)
    (a__law_number : PySem.W.nsIn K mainGlobals "_law_number" = some (some (.ref f__law_number)))
    (l__law_number : K.lookup f__law_number = some ⟨oc__law_number, od__law_number, .func (PySem.W.fnOf "_law_number" "_law_number" (defArgs st__law_number) (defBody st__law_number) (defScope st__law_number) .none kV__law_number dc__law_number pm__law_number an__law_number cd__law_number ct__law_number), sl__law_number⟩)
    (c__law_number : PySem.W.codeIn K cd__law_number "_law_number" = true)
    (k__law_number : PySem.W.keepIn K (.ref f__law_number) = true)
    (a__law_step : PySem.W.nsIn K mainGlobals "_law_step" = some (some (.ref f__law_step)))
    (l__law_step : K.lookup f__law_step = some ⟨oc__law_step, od__law_step, .func (PySem.W.fnOf "_law_step" "_law_step" (defArgs st__law_step) (defBody st__law_step) (defScope st__law_step) .none kV__law_step dc__law_step pm__law_step an__law_step cd__law_step ct__law_step), sl__law_step⟩)
    (c__law_step : PySem.W.codeIn K cd__law_step "_law_step" = true)
    (k__law_step : PySem.W.keepIn K (.ref f__law_step) = true)
    (a__law_given : PySem.W.nsIn K mainGlobals "_law_given" = some (some (.ref f__law_given)))
    (l__law_given : K.lookup f__law_given = some ⟨oc__law_given, od__law_given, .func (PySem.W.fnOf "_law_given" "_law_given" (defArgs st__law_given) (defBody st__law_given) (defScope st__law_given) .none kV__law_given dc__law_given pm__law_given an__law_given cd__law_given ct__law_given), sl__law_given⟩)
    (c__law_given : PySem.W.codeIn K cd__law_given "_law_given" = true)
    (k__law_given : PySem.W.keepIn K (.ref f__law_given) = true)
    (a__law_letters : PySem.W.nsIn K mainGlobals "_law_letters" = some (some (.ref f__law_letters)))
    (l__law_letters : K.lookup f__law_letters = some ⟨oc__law_letters, od__law_letters, .func (PySem.W.fnOf "_law_letters" "_law_letters" (defArgs st__law_letters) (defBody st__law_letters) (defScope st__law_letters) .none kV__law_letters dc__law_letters pm__law_letters an__law_letters cd__law_letters ct__law_letters), sl__law_letters⟩)
    (c__law_letters : PySem.W.codeIn K cd__law_letters "_law_letters" = true)
    (k__law_letters : PySem.W.keepIn K (.ref f__law_letters) = true)
    (a__law_line : PySem.W.nsIn K mainGlobals "_law_line" = some (some (.ref f__law_line)))
    (l__law_line : K.lookup f__law_line = some ⟨oc__law_line, od__law_line, .func (PySem.W.fnOf "_law_line" "_law_line" (defArgs st__law_line) (defBody st__law_line) (defScope st__law_line) .none kV__law_line dc__law_line pm__law_line an__law_line cd__law_line ct__law_line), sl__law_line⟩)
    (c__law_line : PySem.W.codeIn K cd__law_line "_law_line" = true)
    (k__law_line : PySem.W.keepIn K (.ref f__law_line) = true)
    (a__law_bad_line : PySem.W.nsIn K mainGlobals "_law_bad_line" = some (some (.ref f__law_bad_line)))
    (l__law_bad_line : K.lookup f__law_bad_line = some ⟨oc__law_bad_line, od__law_bad_line, .func (PySem.W.fnOf "_law_bad_line" "_law_bad_line" (defArgs st__law_bad_line) (defBody st__law_bad_line) (defScope st__law_bad_line) .none kV__law_bad_line dc__law_bad_line pm__law_bad_line an__law_bad_line cd__law_bad_line ct__law_bad_line), sl__law_bad_line⟩)
    (c__law_bad_line : PySem.W.codeIn K cd__law_bad_line "_law_bad_line" = true)
    (k__law_bad_line : PySem.W.keepIn K (.ref f__law_bad_line) = true)
    (rd_Ratio__read : PySem.W.readsIn K A_Ratio (.type "type") = true)
    (rg_Ratio__read : PySem.W.specialIn K (.ref A_Ratio) "__getattribute__" = some (some (.builtin "type.__getattribute__")))
    (at_Ratio__read : PySem.W.findCls K (.ref A_Ratio) (.type "type") "read" = some (.get (.builtin "classmethod.__get__") (.ref p_Ratio__read) .none (.ref A_Ratio)))
    (rc_Ratio__read : PySem.W.recIn K p_Ratio__read "classmethod" = some (.ref f_Ratio__read :: rs_Ratio__read))
    (fi_Ratio__read : PySem.W.fnIn K f_Ratio__read = true)
    (l_Ratio__read : K.lookup f_Ratio__read = some ⟨oc_Ratio__read, od_Ratio__read, .func (PySem.W.fnOf "read" "Ratio.read" (defArgs st_Ratio__read) (defBody st_Ratio__read) (defScope st_Ratio__read) .none kV_Ratio__read dc_Ratio__read pm_Ratio__read an_Ratio__read cd_Ratio__read ct_Ratio__read), sl_Ratio__read⟩)
    (c_Ratio__read : PySem.W.codeIn K cd_Ratio__read "Ratio.read" = true)
    (k_Ratio__read : PySem.W.keepIn K (.ref f_Ratio__read) = true)
    (at_Recipe__init : PySem.W.findIn K (.ref A_Recipe) "__init__" = some (some (.ref f_Recipe__init)))
    (fn_Recipe__init : PySem.W.isFn K (.ref f_Recipe__init) = true)
    (l_Recipe__init : K.lookup f_Recipe__init = some ⟨oc_Recipe__init, od_Recipe__init, .func (PySem.W.fnOf "__init__" "Recipe.__init__" (defArgs st_Recipe__init) (defBody st_Recipe__init) (defScope st_Recipe__init) .none kV_Recipe__init dc_Recipe__init pm_Recipe__init an_Recipe__init cd_Recipe__init ct_Recipe__init), sl_Recipe__init⟩)
    (c_Recipe__init : PySem.W.codeIn K cd_Recipe__init "Recipe.__init__" = true)
    (k_Recipe__init : PySem.W.keepIn K (.ref f_Recipe__init) = true)
    (a__read_ratio : PySem.W.nsIn K mainGlobals "_read_ratio" = some (some (.ref f__read_ratio)))
    (l__read_ratio : K.lookup f__read_ratio = some ⟨oc__read_ratio, od__read_ratio, .func (PySem.W.fnOf "_read_ratio" "_read_ratio" (defArgs st__read_ratio) (defBody st__read_ratio) (defScope st__read_ratio) .none kV__read_ratio dc__read_ratio pm__read_ratio an__read_ratio cd__read_ratio ct__read_ratio), sl__read_ratio⟩)
    (c__read_ratio : PySem.W.codeIn K cd__read_ratio "_read_ratio" = true)
    (k__read_ratio : PySem.W.keepIn K (.ref f__read_ratio) = true)
    (a__read_step : PySem.W.nsIn K mainGlobals "_read_step" = some (some (.ref f__read_step)))
    (l__read_step : K.lookup f__read_step = some ⟨oc__read_step, od__read_step, .func (PySem.W.fnOf "_read_step" "_read_step" (defArgs st__read_step) (defBody st__read_step) (defScope st__read_step) .none kV__read_step dc__read_step pm__read_step an__read_step cd__read_step ct__read_step), sl__read_step⟩)
    (c__read_step : PySem.W.codeIn K cd__read_step "_read_step" = true)
    (k__read_step : PySem.W.keepIn K (.ref f__read_step) = true)
    (a__law_steps : PySem.W.nsIn K mainGlobals "_law_steps" = some (some (.ref f__law_steps)))
    (l__law_steps : K.lookup f__law_steps = some ⟨oc__law_steps, od__law_steps, .func (PySem.W.fnOf "_law_steps" "_law_steps" (defArgs st__law_steps) (defBody st__law_steps) (defScope st__law_steps) .none kV__law_steps dc__law_steps pm__law_steps an__law_steps cd__law_steps ct__law_steps), sl__law_steps⟩)
    (c__law_steps : PySem.W.codeIn K cd__law_steps "_law_steps" = true)
    (k__law_steps : PySem.W.keepIn K (.ref f__law_steps) = true)
    (a_read_recipe : PySem.W.nsIn K mainGlobals "read_recipe" = some (some (.ref f_read_recipe)))
    (l_read_recipe : K.lookup f_read_recipe = some ⟨oc_read_recipe, od_read_recipe, .func (PySem.W.fnOf "read_recipe" "read_recipe" (defArgs st_read_recipe) (defBody st_read_recipe) (defScope st_read_recipe) .none kV_read_recipe dc_read_recipe pm_read_recipe an_read_recipe cd_read_recipe ct_read_recipe), sl_read_recipe⟩)
    (c_read_recipe : PySem.W.codeIn K cd_read_recipe "read_recipe" = true)
    (k_read_recipe : PySem.W.keepIn K (.ref f_read_recipe) = true)
    (a_law : PySem.W.nsIn K mainGlobals "law" = some (some (.ref f_law)))
    (l_law : K.lookup f_law = some ⟨oc_law, od_law, .func (PySem.W.fnOf "law" "law" (defArgs st_law) (defBody st_law) (defScope st_law) .none kV_law dc_law pm_law an_law cd_law ct_law), sl_law⟩)
    (c_law : PySem.W.codeIn K cd_law "law" = true)
    (k_law : PySem.W.keepIn K (.ref f_law) = true)
    (l_InvalidRecipe__init : K.lookup f_InvalidRecipe__init = some ⟨oc_InvalidRecipe__init, od_InvalidRecipe__init, .func (PySem.W.fnOf "__init__" "InvalidRecipe.__init__" (defArgs st_InvalidRecipe__init) (defBody st_InvalidRecipe__init) (defScope st_InvalidRecipe__init) .none kV_InvalidRecipe__init dc_InvalidRecipe__init pm_InvalidRecipe__init an_InvalidRecipe__init cd_InvalidRecipe__init ct_InvalidRecipe__init), sl_InvalidRecipe__init⟩)
    (c_InvalidRecipe__init : PySem.W.codeIn K cd_InvalidRecipe__init "InvalidRecipe.__init__" = true)
    (k_InvalidRecipe__init : PySem.W.keepIn K (.ref f_InvalidRecipe__init) = true)
    : ∃ fd : FuncData, (∀ (s : Shared) (v : Value), BindsTo s fd ⟨[v], []⟩ [("script", v)]) ∧ ∀ base : Heap, K.In base → base.Ns mainGlobals mg → FnOk P w K mg base (L2.CX P w) 7 fa fd ["script"] (spD ⟨K, mg, none, none⟩ m_law) := by
  have e := hfa.symm.trans (PySem.W.mg_of X G a_law)
  cases e
  have CL_Ratio : Cls K A_Ratio := ⟨pg_Ratio, hd_Ratio, po_Ratio, sa_Ratio⟩
  have CL_Recipe : Cls K A_Recipe := ⟨pg_Recipe, hd_Recipe, po_Recipe, sa_Recipe⟩
  have xI := PySem.W.mg_of X G g_InvalidRecipe
  have T : Txt K mg A_Ratio A_Recipe A_InvalidRecipe A_ZeroDivisor A_InvalidNumber A_WrongKind a_NEW_WORDS a_PAIRS a__POWERS := {
    n_abs := PySem.W.mg_none_of X G b_abs
    n_any := PySem.W.mg_none_of X G b_any
    n_enumerate := PySem.W.mg_none_of X G b_enumerate
    n_int := PySem.W.mg_none_of X G b_int
    n_isinstance := PySem.W.mg_none_of X G b_isinstance
    n_len := PySem.W.mg_none_of X G b_len
    n_list := PySem.W.mg_none_of X G b_list
    n_max := PySem.W.mg_none_of X G b_max
    n_range := PySem.W.mg_none_of X G b_range
    n_set := PySem.W.mg_none_of X G b_set
    n_str := PySem.W.mg_none_of X G b_str
    n_tuple := PySem.W.mg_none_of X G b_tuple
    b_gcd := PySem.W.mg_of X G g_gcd
    mg_NEW_WORDS := PySem.W.mg_of X G g_NEW_WORDS
    rep_NEW_WORDS := fun F => ⟨a_NEW_WORDS, [.str "transpose", .str "inverse", .str "det"], rfl, .inr ⟨_, _, _, l_NEW_WORDS, rfl, rfl, rfl, (by show 3 ≤ sizeLine; decide), (.cons ⟨_, rfl⟩ (.cons ⟨_, rfl⟩ (.cons ⟨_, rfl⟩ .nil)))⟩, ⟨_, _, rfl, rfl, ⟨_, _, rfl, rfl, ⟨_, _, rfl, rfl, rfl⟩⟩⟩⟩
    mg_PAIRS := PySem.W.mg_of X G g_PAIRS
    rep_PAIRS := fun F => ⟨a_PAIRS, [.str "sum", .str "diff", .str "times"], rfl, .inr ⟨_, _, _, l_PAIRS, rfl, rfl, rfl, (by show 3 ≤ sizeLine; decide), (.cons ⟨_, rfl⟩ (.cons ⟨_, rfl⟩ (.cons ⟨_, rfl⟩ .nil)))⟩, ⟨_, _, rfl, rfl, ⟨_, _, rfl, rfl, ⟨_, _, rfl, rfl, rfl⟩⟩⟩⟩
    mg__POWERS := PySem.W.mg_of X G g__POWERS
    rep__POWERS := fun F => ⟨a__POWERS, [.str "0", .str "1", .str "2", .str "3", .str "4", .str "5", .str "6"], rfl, .inr ⟨_, _, _, l__POWERS, rfl, rfl, rfl, (by show 7 ≤ sizeLine; decide), (.cons ⟨_, rfl⟩ (.cons ⟨_, rfl⟩ (.cons ⟨_, rfl⟩ (.cons ⟨_, rfl⟩ (.cons ⟨_, rfl⟩ (.cons ⟨_, rfl⟩ (.cons ⟨_, rfl⟩ .nil)))))))⟩, ⟨_, _, rfl, rfl, ⟨_, _, rfl, rfl, ⟨_, _, rfl, rfl, ⟨_, _, rfl, rfl, ⟨_, _, rfl, rfl, ⟨_, _, rfl, rfl, ⟨_, _, rfl, rfl, rfl⟩⟩⟩⟩⟩⟩⟩⟩
    g_LOWER_CASE := ⟨_, PySem.W.mg_of X G g_LOWER_CASE, ⟨_, rfl⟩⟩
    g_DIGITS := ⟨_, PySem.W.mg_of X G g_DIGITS, ⟨_, rfl⟩⟩
    g_MOST_DIGITS := ⟨_, PySem.W.mg_of X G g_MOST_DIGITS, ⟨_, rfl⟩⟩
    g_MOST_RECIPE_STEPS := ⟨_, PySem.W.mg_of X G g_MOST_RECIPE_STEPS, ⟨_, rfl⟩⟩
    g_MOST_RECIPE_LETTERS := ⟨_, PySem.W.mg_of X G g_MOST_RECIPE_LETTERS, ⟨_, rfl⟩⟩
    x_ZeroDivisor := PySem.W.mg_of X G g_ZeroDivisor
    q_ZeroDivisor := q_ZeroDivisor
    k_ZeroDivisor := k_ZeroDivisor
    b_ZeroDivisor := b_ZeroDivisor
    t_ZeroDivisor := t_ZeroDivisor
    x_InvalidNumber := PySem.W.mg_of X G g_InvalidNumber
    q_InvalidNumber := q_InvalidNumber
    k_InvalidNumber := k_InvalidNumber
    b_InvalidNumber := b_InvalidNumber
    t_InvalidNumber := t_InvalidNumber
    x_WrongKind := PySem.W.mg_of X G g_WrongKind
    q_WrongKind := q_WrongKind
    k_WrongKind := k_WrongKind
    b_WrongKind := b_WrongKind
    t_WrongKind := t_WrongKind
    x_InvalidRecipe := xI
    sub_WrongKind := sub_only (PySem.W.mg_of X G g_WrongKind) (exm_sub b_WrongKind i_WrongKind t_WrongKind s_WrongKind)
    sub_InvalidNumber := sub_only (PySem.W.mg_of X G g_InvalidNumber) (exm_sub b_InvalidNumber i_InvalidNumber t_InvalidNumber s_InvalidNumber)
    sub_InvalidRecipe := sub_only (PySem.W.mg_of X G g_InvalidRecipe) (exm_sub b_InvalidRecipe i_InvalidRecipe t_InvalidRecipe s_InvalidRecipe)
    xf_line := xfs1 xI ⟨x_ga, x_gg, b_InvalidRecipe, x_hd⟩ x_no
    x_Ratio := PySem.W.mg_of X G g_Ratio
    cl_Ratio := CL_Ratio
    ty_Ratio := ⟨CL_Ratio, ha_Ratio, hn, ht, hm_Ratio⟩
    kt_Ratio := kit_self
    x_Recipe := PySem.W.mg_of X G g_Recipe
    cl_Recipe := CL_Recipe
    ty_Recipe := ⟨CL_Recipe, ha_Recipe, hn, ht, hm_Recipe⟩
    kt_Recipe := kit_self
    no_Ratio_num := no_Ratio_num
    no_Ratio_den := no_Ratio_den
    no_Recipe_letters := no_Recipe_letters
    no_Recipe_steps := no_Recipe_steps
    no_Recipe_kinds := no_Recipe_kinds
    no_Recipe_result := no_Recipe_result
    no_Recipe_kind := no_Recipe_kind
    }
  have F_Ratio__init : FunD K "__init__" "Ratio.__init__" (defArgs st_Ratio__init) (defBody st_Ratio__init) (defScope st_Ratio__init) [.int 1] [] f_Ratio__init (PySem.W.fnOf "__init__" "Ratio.__init__" (defArgs st_Ratio__init) (defBody st_Ratio__init) (defScope st_Ratio__init) (.ref D_Ratio__init) kV_Ratio__init dc_Ratio__init pm_Ratio__init an_Ratio__init cd_Ratio__init ct_Ratio__init) := ⟨⟨_, _, _, _, _, _, _, _, _, _, rfl, l_Ratio__init, c_Ratio__init, .inr ⟨by simp, _, _, [.int 1 tD_Ratio__init], _, rfl, ld_Ratio__init, rfl, .cons ⟨_, rfl⟩ .nil⟩, .inl rfl⟩, k_Ratio__init⟩
  have B_Ratio__init : Binds K (PySem.W.fnOf "__init__" "Ratio.__init__" (defArgs st_Ratio__init) (defBody st_Ratio__init) (defScope st_Ratio__init) (.ref D_Ratio__init) kV_Ratio__init dc_Ratio__init pm_Ratio__init an_Ratio__init cd_Ratio__init ct_Ratio__init) ["self", "num", "den"] [] := by
    obtain ⟨ds, h1, h2⟩ := F_Ratio__init.binds1 (ps := ["self", "num", "den"]) 3 1 (by simp) rfl fun _ _ _ _ _ _ _ us its hu hi => match us, hu, its, hi with | [_, _, _], _, [_], _ => ⟨_, rfl, rfl⟩
    cases h1
    exact h2
  have F_Ratio__eq := fun_mk (st := st_Ratio__eq) l_Ratio__eq c_Ratio__eq k_Ratio__eq
  have B_Ratio__eq := F_Ratio__eq.binds (ps := ["self", "other"]) fun _ _ _ _ _ _ us hl => match us, hl with | [_, _], _ => rfl
  have F_Ratio__str := fun_mk (st := st_Ratio__str) l_Ratio__str c_Ratio__str k_Ratio__str
  have B_Ratio__str := F_Ratio__str.binds (ps := ["self"]) fun _ _ _ _ _ _ us hl => match us, hl with | [_], _ => rfl
  have F_natural := fun_mk (st := st_natural) l_natural c_natural k_natural
  have B_natural := F_natural.binds (ps := ["digits"]) fun _ _ _ _ _ _ us hl => match us, hl with | [_], _ => rfl
  have F_step_kind := fun_mk (st := st_step_kind) l_step_kind c_step_kind k_step_kind
  have B_step_kind := F_step_kind.binds (ps := ["step", "kinds"]) fun _ _ _ _ _ _ us hl => match us, hl with | [_, _], _ => rfl
  have F_Recipe__eq := fun_mk (st := st_Recipe__eq) l_Recipe__eq c_Recipe__eq k_Recipe__eq
  have B_Recipe__eq := F_Recipe__eq.binds (ps := ["self", "other"]) fun _ _ _ _ _ _ us hl => match us, hl with | [_, _], _ => rfl
  have F_Recipe__is_plain := fun_mk (st := st_Recipe__is_plain) l_Recipe__is_plain c_Recipe__is_plain k_Recipe__is_plain
  have B_Recipe__is_plain := F_Recipe__is_plain.binds (ps := ["self"]) fun _ _ _ _ _ _ us hl => match us, hl with | [_], _ => rfl
  have F_kind_of_step := fun_mk (st := st_kind_of_step) l_kind_of_step c_kind_of_step k_kind_of_step
  have B_kind_of_step := F_kind_of_step.binds (ps := ["step", "kinds"]) fun _ _ _ _ _ _ us hl => match us, hl with | [_, _], _ => rfl
  have F_show_recipe := fun_mk (st := st_show_recipe) l_show_recipe c_show_recipe k_show_recipe
  have B_show_recipe := F_show_recipe.binds (ps := ["recipe"]) fun _ _ _ _ _ _ us hl => match us, hl with | [_], _ => rfl
  have F__read_letters := fun_mk (st := st__read_letters) l__read_letters c__read_letters k__read_letters
  have B__read_letters := F__read_letters.binds (ps := ["line"]) fun _ _ _ _ _ _ us hl => match us, hl with | [_], _ => rfl
  have F__read_index := fun_mk (st := st__read_index) l__read_index c__read_index k__read_index
  have B__read_index := F__read_index.binds (ps := ["words", "steps", "number"]) fun _ _ _ _ _ _ us hl => match us, hl with | [_, _, _], _ => rfl
  have F__law_cell := fun_mk (st := st__law_cell) l__law_cell c__law_cell k__law_cell
  have B__law_cell := F__law_cell.binds (ps := ["script", "k"]) fun _ _ _ _ _ _ us hl => match us, hl with | [_, _], _ => rfl
  have F__law_number := fun_mk (st := st__law_number) l__law_number c__law_number k__law_number
  have B__law_number := F__law_number.binds (ps := ["script", "k"]) fun _ _ _ _ _ _ us hl => match us, hl with | [_, _], _ => rfl
  have F__law_step := fun_mk (st := st__law_step) l__law_step c__law_step k__law_step
  have B__law_step := F__law_step.binds (ps := ["pick", "first", "second", "factor", "kinds", "grades", "most", "size"]) fun _ _ _ _ _ _ us hl => match us, hl with | [_, _, _, _, _, _, _, _], _ => rfl
  have F__law_given := fun_mk (st := st__law_given) l__law_given c__law_given k__law_given
  have B__law_given := F__law_given.binds (ps := ["steps"]) fun _ _ _ _ _ _ us hl => match us, hl with | [_], _ => rfl
  have F__law_letters := fun_mk (st := st__law_letters) l__law_letters c__law_letters k__law_letters
  have B__law_letters := F__law_letters.binds (ps := ["number", "many"]) fun _ _ _ _ _ _ us hl => match us, hl with | [_, _], _ => rfl
  have F__law_line := fun_mk (st := st__law_line) l__law_line c__law_line k__law_line
  have B__law_line := F__law_line.binds (ps := ["step"]) fun _ _ _ _ _ _ us hl => match us, hl with | [_], _ => rfl
  have F__law_bad_line := fun_mk (st := st__law_bad_line) l__law_bad_line c__law_bad_line k__law_bad_line
  have B__law_bad_line := F__law_bad_line.binds (ps := ["way", "at", "kinds"]) fun _ _ _ _ _ _ us hl => match us, hl with | [_, _, _], _ => rfl
  have F_Ratio__read := fun_mk (st := st_Ratio__read) l_Ratio__read c_Ratio__read k_Ratio__read
  have B_Ratio__read := F_Ratio__read.binds (ps := ["cls", "text"]) fun _ _ _ _ _ _ us hl => match us, hl with | [_, _], _ => rfl
  have F_Recipe__init := fun_mk (st := st_Recipe__init) l_Recipe__init c_Recipe__init k_Recipe__init
  have B_Recipe__init := F_Recipe__init.binds (ps := ["self", "letters", "steps", "result"]) fun _ _ _ _ _ _ us hl => match us, hl with | [_, _, _, _], _ => rfl
  have F__read_ratio := fun_mk (st := st__read_ratio) l__read_ratio c__read_ratio k__read_ratio
  have B__read_ratio := F__read_ratio.binds (ps := ["text", "number"]) fun _ _ _ _ _ _ us hl => match us, hl with | [_, _], _ => rfl
  have F__read_step := fun_mk (st := st__read_step) l__read_step c__read_step k__read_step
  have B__read_step := F__read_step.binds (ps := ["words", "letters", "steps", "number"]) fun _ _ _ _ _ _ us hl => match us, hl with | [_, _, _, _], _ => rfl
  have F__law_steps := fun_mk (st := st__law_steps) l__law_steps c__law_steps k__law_steps
  have B__law_steps := F__law_steps.binds (ps := ["number", "letters", "many", "most", "backs", "size"]) fun _ _ _ _ _ _ us hl => match us, hl with | [_, _, _, _, _, _], _ => rfl
  have F_read_recipe := fun_mk (st := st_read_recipe) l_read_recipe c_read_recipe k_read_recipe
  have B_read_recipe := F_read_recipe.binds (ps := ["text"]) fun _ _ _ _ _ _ us hl => match us, hl with | [_], _ => rfl
  have F_law := fun_mk (st := st_law) l_law c_law k_law
  have B_law := F_law.binds (ps := ["script"]) fun _ _ _ _ _ _ us hl => match us, hl with | [_], _ => rfl
  have F_InvalidRecipe__init := fun_mk (st := st_InvalidRecipe__init) l_InvalidRecipe__init c_InvalidRecipe__init k_InvalidRecipe__init
  have B_InvalidRecipe__init := F_InvalidRecipe__init.binds (ps := ["self", "line"]) fun _ _ _ _ _ _ us hl => match us, hl with | [_, _], _ => rfl
  refine ⟨PySem.W.fnOf "law" "law" (defArgs st_law) (defBody st_law) (defScope st_law) .none kV_law dc_law pm_law an_law cd_law ct_law, fun s v => .of_eq rfl, fun base _ _ => ?_⟩
  have SX : FnScope ["self", "line"] ["self", "line"] (defScope st_InvalidRecipe__init) := ⟨rfl, rfl, rfl, by decide +kernel, rfl, by decide +kernel, by decide +kernel⟩
  have Q_InvalidRecipe : CalX P w K mg base "InvalidRecipe" "line" "line" A_InvalidRecipe f_InvalidRecipe__init (PySem.W.fnOf "__init__" "InvalidRecipe.__init__" (defArgs st_InvalidRecipe__init) (defBody st_InvalidRecipe__init) (defScope st_InvalidRecipe__init) .none kV_InvalidRecipe__init dc_InvalidRecipe__init pm_InvalidRecipe__init an_InvalidRecipe__init cd_InvalidRecipe__init ct_InvalidRecipe__init) := ⟨⟨xI, ⟨⟨xnm, xq, xN, xbs, _, xsn, xsub, xab, xcol, xdd, xk0, xk1, xk2, xk3, xk5, xL, rfl⟩, x_sa, b_InvalidRecipe, t_InvalidRecipe, k_InvalidRecipe⟩, x_no, x_i, x_t⟩,
    okX F_InvalidRecipe__init SX (fun cdv A outer s H E => by exact (pss_one (ps_ost (pv 0) (pv 1)))), okXH F_InvalidRecipe__init SX (fun cdv A outer s H E p => by exact (pss_one (ps_ost (pv 0) (pv 1)))), B_InvalidRecipe__init⟩
  have Q_Ratio__init : CalI P w K mg base (L2N.CX P w) 1 "Ratio" ["self", "num", "den"] m_Ratio__init A_Ratio f_Ratio__init (PySem.W.fnOf "__init__" "Ratio.__init__" (defArgs st_Ratio__init) (defBody st_Ratio__init) (defScope st_Ratio__init) (.ref D_Ratio__init) kV_Ratio__init dc_Ratio__init pm_Ratio__init an_Ratio__init cd_Ratio__init ct_Ratio__init) := ⟨DP.c_Ratio__init (P := P) (w := w) (base := base) T  F_Ratio__init, PySem.W.mg_of X G g_Ratio, ⟨mk_Ratio, at_Ratio__init, fn_Ratio__init, kc_Ratio⟩, B_Ratio__init⟩
  have Q_Ratio__eq : CalO P w K mg base 1 "Ratio" "__eq__" ["self", "other"] m_Ratio__eq A_Ratio f_Ratio__eq (PySem.W.fnOf "__eq__" "Ratio.__eq__" (defArgs st_Ratio__eq) (defBody st_Ratio__eq) (defScope st_Ratio__eq) .none kV_Ratio__eq dc_Ratio__eq pm_Ratio__eq an_Ratio__eq cd_Ratio__eq ct_Ratio__eq) := ⟨DP.c_Ratio__eq (P := P) (w := w) (base := base) T  F_Ratio__eq, PySem.W.mg_of X G g_Ratio, sf_Ratio, at_Ratio__eq, fn_Ratio__eq, B_Ratio__eq⟩
  have Q_Ratio__str : CalO P w K mg base 1 "Ratio" "__str__" ["self"] m_Ratio__str A_Ratio f_Ratio__str (PySem.W.fnOf "__str__" "Ratio.__str__" (defArgs st_Ratio__str) (defBody st_Ratio__str) (defScope st_Ratio__str) .none kV_Ratio__str dc_Ratio__str pm_Ratio__str an_Ratio__str cd_Ratio__str ct_Ratio__str) := ⟨DP.c_Ratio__str (P := P) (w := w) (base := base) T  F_Ratio__str, PySem.W.mg_of X G g_Ratio, sf_Ratio, at_Ratio__str, fn_Ratio__str, B_Ratio__str⟩
  have Q_natural : Cal P w K mg base (L2N.CX P w) 1 "natural" ["digits"] m_natural f_natural (PySem.W.fnOf "natural" "natural" (defArgs st_natural) (defBody st_natural) (defScope st_natural) .none kV_natural dc_natural pm_natural an_natural cd_natural ct_natural) := ⟨DP.c_natural (P := P) (w := w) (base := base) T  F_natural, PySem.W.mg_of X G a_natural, k_natural, B_natural⟩
  have Q_step_kind : Cal P w K mg base (L2N.CX P w) 1 "step_kind" ["step", "kinds"] m_step_kind f_step_kind (PySem.W.fnOf "step_kind" "step_kind" (defArgs st_step_kind) (defBody st_step_kind) (defScope st_step_kind) .none kV_step_kind dc_step_kind pm_step_kind an_step_kind cd_step_kind ct_step_kind) := ⟨DP.c_step_kind (P := P) (w := w) (base := base) T  F_step_kind, PySem.W.mg_of X G a_step_kind, k_step_kind, B_step_kind⟩
  have Q_Recipe__eq : CalO P w K mg base 4 "Recipe" "__eq__" ["self", "other"] m_Recipe__eq A_Recipe f_Recipe__eq (PySem.W.fnOf "__eq__" "Recipe.__eq__" (defArgs st_Recipe__eq) (defBody st_Recipe__eq) (defScope st_Recipe__eq) .none kV_Recipe__eq dc_Recipe__eq pm_Recipe__eq an_Recipe__eq cd_Recipe__eq ct_Recipe__eq) := ⟨DP.c_Recipe__eq (P := P) (w := w) (base := base) T Q_Ratio__eq F_Recipe__eq, PySem.W.mg_of X G g_Recipe, sf_Recipe, at_Recipe__eq, fn_Recipe__eq, B_Recipe__eq⟩
  have Q_Recipe__is_plain : CalP P w K mg base 1 "Recipe" "is_plain" ["self"] m_Recipe__is_plain A_Recipe p_Recipe__is_plain f_Recipe__is_plain (PySem.W.fnOf "is_plain" "Recipe.is_plain" (defArgs st_Recipe__is_plain) (defBody st_Recipe__is_plain) (defScope st_Recipe__is_plain) .none kV_Recipe__is_plain dc_Recipe__is_plain pm_Recipe__is_plain an_Recipe__is_plain cd_Recipe__is_plain ct_Recipe__is_plain) := ⟨DP.c_Recipe__is_plain (P := P) (w := w) (base := base) T  F_Recipe__is_plain, PySem.W.mg_of X G g_Recipe, CL_Recipe, ⟨at_Recipe__is_plain, ge_Recipe__is_plain, ta_Recipe__is_plain, ⟨_, rc_Recipe__is_plain⟩⟩, B_Recipe__is_plain⟩
  have Q_kind_of_step : Cal P w K mg base (L2N.CX P w) 2 "kind_of_step" ["step", "kinds"] m_kind_of_step f_kind_of_step (PySem.W.fnOf "kind_of_step" "kind_of_step" (defArgs st_kind_of_step) (defBody st_kind_of_step) (defScope st_kind_of_step) .none kV_kind_of_step dc_kind_of_step pm_kind_of_step an_kind_of_step cd_kind_of_step ct_kind_of_step) := ⟨DP.c_kind_of_step (P := P) (w := w) (base := base) T Q_step_kind F_kind_of_step, PySem.W.mg_of X G a_kind_of_step, k_kind_of_step, B_kind_of_step⟩
  have Q_show_recipe : Cal P w K mg base (L2.CX P w) 4 "show_recipe" ["recipe"] m_show_recipe f_show_recipe (PySem.W.fnOf "show_recipe" "show_recipe" (defArgs st_show_recipe) (defBody st_show_recipe) (defScope st_show_recipe) .none kV_show_recipe dc_show_recipe pm_show_recipe an_show_recipe cd_show_recipe ct_show_recipe) := ⟨DP.c_show_recipe (P := P) (w := w) (base := base) T Q_Ratio__str F_show_recipe, PySem.W.mg_of X G a_show_recipe, k_show_recipe, B_show_recipe⟩
  have Q__read_letters : Cal P w K mg base (L2.CX P w) 3 "_read_letters" ["line"] m__read_letters f__read_letters (PySem.W.fnOf "_read_letters" "_read_letters" (defArgs st__read_letters) (defBody st__read_letters) (defScope st__read_letters) .none kV__read_letters dc__read_letters pm__read_letters an__read_letters cd__read_letters ct__read_letters) := ⟨DP.c__read_letters (P := P) (w := w) (base := base) T Q_InvalidRecipe F__read_letters, PySem.W.mg_of X G a__read_letters, k__read_letters, B__read_letters⟩
  have Q__read_index : Cal P w K mg base (L2.CX P w) 3 "_read_index" ["words", "steps", "number"] m__read_index f__read_index (PySem.W.fnOf "_read_index" "_read_index" (defArgs st__read_index) (defBody st__read_index) (defScope st__read_index) .none kV__read_index dc__read_index pm__read_index an__read_index cd__read_index ct__read_index) := ⟨DP.c__read_index (P := P) (w := w) (base := base) T Q_InvalidRecipe F__read_index, PySem.W.mg_of X G a__read_index, k__read_index, B__read_index⟩
  have Q__law_cell : Cal P w K mg base (L2.CX P w) 1 "_law_cell" ["script", "k"] m__law_cell f__law_cell (PySem.W.fnOf "_law_cell" "_law_cell" (defArgs st__law_cell) (defBody st__law_cell) (defScope st__law_cell) .none kV__law_cell dc__law_cell pm__law_cell an__law_cell cd__law_cell ct__law_cell) := ⟨DP.c__law_cell (P := P) (w := w) (base := base) T  F__law_cell, PySem.W.mg_of X G a__law_cell, k__law_cell, B__law_cell⟩
  have Q__law_number : Cal P w K mg base (L2.CX P w) 2 "_law_number" ["script", "k"] m__law_number f__law_number (PySem.W.fnOf "_law_number" "_law_number" (defArgs st__law_number) (defBody st__law_number) (defScope st__law_number) .none kV__law_number dc__law_number pm__law_number an__law_number cd__law_number ct__law_number) := ⟨DP.c__law_number (P := P) (w := w) (base := base) T Q__law_cell F__law_number, PySem.W.mg_of X G a__law_number, k__law_number, B__law_number⟩
  have Q__law_step : Cal P w K mg base (L2.CX P w) 1 "_law_step" ["pick", "first", "second", "factor", "kinds", "grades", "most", "size"] m__law_step f__law_step (PySem.W.fnOf "_law_step" "_law_step" (defArgs st__law_step) (defBody st__law_step) (defScope st__law_step) .none kV__law_step dc__law_step pm__law_step an__law_step cd__law_step ct__law_step) := ⟨DP.c__law_step (P := P) (w := w) (base := base) T  F__law_step, PySem.W.mg_of X G a__law_step, k__law_step, B__law_step⟩
  have Q__law_given : Cal P w K mg base (L2N.CX P w) 3 "_law_given" ["steps"] m__law_given f__law_given (PySem.W.fnOf "_law_given" "_law_given" (defArgs st__law_given) (defBody st__law_given) (defScope st__law_given) .none kV__law_given dc__law_given pm__law_given an__law_given cd__law_given ct__law_given) := ⟨DP.c__law_given (P := P) (w := w) (base := base) T Q_Ratio__init F__law_given, PySem.W.mg_of X G a__law_given, k__law_given, B__law_given⟩
  have Q__law_letters : Cal P w K mg base (L2.CX P w) 1 "_law_letters" ["number", "many"] m__law_letters f__law_letters (PySem.W.fnOf "_law_letters" "_law_letters" (defArgs st__law_letters) (defBody st__law_letters) (defScope st__law_letters) .none kV__law_letters dc__law_letters pm__law_letters an__law_letters cd__law_letters ct__law_letters) := ⟨DP.c__law_letters (P := P) (w := w) (base := base) T  F__law_letters, PySem.W.mg_of X G a__law_letters, k__law_letters, B__law_letters⟩
  have Q__law_line : Cal P w K mg base (L2.CX P w) 4 "_law_line" ["step"] m__law_line f__law_line (PySem.W.fnOf "_law_line" "_law_line" (defArgs st__law_line) (defBody st__law_line) (defScope st__law_line) .none kV__law_line dc__law_line pm__law_line an__law_line cd__law_line ct__law_line) := ⟨DP.c__law_line (P := P) (w := w) (base := base) T Q_Ratio__init Q_Ratio__str F__law_line, PySem.W.mg_of X G a__law_line, k__law_line, B__law_line⟩
  have Q__law_bad_line : Cal P w K mg base (L2.CX P w) 1 "_law_bad_line" ["way", "at", "kinds"] m__law_bad_line f__law_bad_line (PySem.W.fnOf "_law_bad_line" "_law_bad_line" (defArgs st__law_bad_line) (defBody st__law_bad_line) (defScope st__law_bad_line) .none kV__law_bad_line dc__law_bad_line pm__law_bad_line an__law_bad_line cd__law_bad_line ct__law_bad_line) := ⟨DP.c__law_bad_line (P := P) (w := w) (base := base) T  F__law_bad_line, PySem.W.mg_of X G a__law_bad_line, k__law_bad_line, B__law_bad_line⟩
  have Q_Ratio__read : CalC P w K mg base (L2N.CX P w) 3 "Ratio" "read" ["cls", "text"] m_Ratio__read A_Ratio f_Ratio__read (PySem.W.fnOf "read" "Ratio.read" (defArgs st_Ratio__read) (defBody st_Ratio__read) (defScope st_Ratio__read) .none kV_Ratio__read dc_Ratio__read pm_Ratio__read an_Ratio__read cd_Ratio__read ct_Ratio__read) := ⟨DP.c_Ratio__read (P := P) (w := w) (base := base) T Q_natural Q_Ratio__init F_Ratio__read, PySem.W.mg_of X G g_Ratio, ⟨_, _, ⟨rd_Ratio__read, rg_Ratio__read⟩, ⟨at_Ratio__read, ⟨_, rc_Ratio__read⟩, fi_Ratio__read⟩⟩, B_Ratio__read⟩
  have Q_Recipe__init : CalI P w K mg base (L2N.CX P w) 3 "Recipe" ["self", "letters", "steps", "result"] m_Recipe__init A_Recipe f_Recipe__init (PySem.W.fnOf "__init__" "Recipe.__init__" (defArgs st_Recipe__init) (defBody st_Recipe__init) (defScope st_Recipe__init) .none kV_Recipe__init dc_Recipe__init pm_Recipe__init an_Recipe__init cd_Recipe__init ct_Recipe__init) := ⟨DP.c_Recipe__init (P := P) (w := w) (base := base) T Q_kind_of_step F_Recipe__init, PySem.W.mg_of X G g_Recipe, ⟨mk_Recipe, at_Recipe__init, fn_Recipe__init, kc_Recipe⟩, B_Recipe__init⟩
  have Q__read_ratio : Cal P w K mg base (L2.CX P w) 4 "_read_ratio" ["text", "number"] m__read_ratio f__read_ratio (PySem.W.fnOf "_read_ratio" "_read_ratio" (defArgs st__read_ratio) (defBody st__read_ratio) (defScope st__read_ratio) .none kV__read_ratio dc__read_ratio pm__read_ratio an__read_ratio cd__read_ratio ct__read_ratio) := ⟨DP.c__read_ratio (P := P) (w := w) (base := base) T Q_Ratio__read Q_InvalidRecipe F__read_ratio, PySem.W.mg_of X G a__read_ratio, k__read_ratio, B__read_ratio⟩
  have Q__read_step : Cal P w K mg base (L2.CX P w) 5 "_read_step" ["words", "letters", "steps", "number"] m__read_step f__read_step (PySem.W.fnOf "_read_step" "_read_step" (defArgs st__read_step) (defBody st__read_step) (defScope st__read_step) .none kV__read_step dc__read_step pm__read_step an__read_step cd__read_step ct__read_step) := ⟨DP.c__read_step (P := P) (w := w) (base := base) T Q_InvalidRecipe Q__read_ratio Q__read_index F__read_step, PySem.W.mg_of X G a__read_step, k__read_step, B__read_step⟩
  have Q__law_steps : Cal P w K mg base (L2.CX P w) 2 "_law_steps" ["number", "letters", "many", "most", "backs", "size"] m__law_steps f__law_steps (PySem.W.fnOf "_law_steps" "_law_steps" (defArgs st__law_steps) (defBody st__law_steps) (defScope st__law_steps) .none kV__law_steps dc__law_steps pm__law_steps an__law_steps cd__law_steps ct__law_steps) := ⟨DP.c__law_steps (P := P) (w := w) (base := base) T Q__law_step F__law_steps, PySem.W.mg_of X G a__law_steps, k__law_steps, B__law_steps⟩
  have Q_read_recipe : Cal P w K mg base (L2.CX P w) 6 "read_recipe" ["text"] m_read_recipe f_read_recipe (PySem.W.fnOf "read_recipe" "read_recipe" (defArgs st_read_recipe) (defBody st_read_recipe) (defScope st_read_recipe) .none kV_read_recipe dc_read_recipe pm_read_recipe an_read_recipe cd_read_recipe ct_read_recipe) := ⟨DP.c_read_recipe (P := P) (w := w) (base := base) T Q__read_letters Q__read_index Q_InvalidRecipe Q_Recipe__init Q__read_step Q_kind_of_step F_read_recipe, PySem.W.mg_of X G a_read_recipe, k_read_recipe, B_read_recipe⟩
  have Q_law : Cal P w K mg base (L2.CX P w) 7 "law" ["script"] m_law fa (PySem.W.fnOf "law" "law" (defArgs st_law) (defBody st_law) (defScope st_law) .none kV_law dc_law pm_law an_law cd_law ct_law) := ⟨DP.c_law (P := P) (w := w) (base := base) T Q__law_number Q__law_letters Q__law_steps Q_Recipe__init Q__law_given Q__law_line Q_read_recipe Q_show_recipe Q_Recipe__eq Q_Recipe__is_plain Q__law_bad_line F_law, PySem.W.mg_of X G a_law, k_law, B_law⟩
  exact Q_law.ok
end DP

open PySem PySem.W
  PyProof.Rows
set_option autoImplicit true
set_option maxRecDepth 100000
set_option maxHeartbeats 0 in
theorem PySem.Challenge.cw_kindsoftables_k27_texts_of_recipes_holds : PySem.Challenge.rw_kindsoftables_k27_texts_of_recipes.Holds := by
  w_on
  o_law
  k_head
  (case hw => w_witness2)
  k_fill
  refine DP.walkD (l := PySem.Challenge.rw_kindsoftables_k27_texts_of_recipes) (n := 63) (k := 7) DP.law27 rfl (by decide) rfl ⟨rfl, by decide, by decide⟩ (fun w h Y => PySem.W.kIn_of Y) ?F
  case F =>
    intro w mg fa h KX G hmg
    refine' DP.all_k27 KX G hmg ?b_abs ?b_any ?b_enumerate ?b_int ?b_isinstance ?b_len ?b_list ?b_max ?b_range ?b_set ?b_str ?b_tuple ?g_gcd ?g_NEW_WORDS ?l_NEW_WORDS ?g_PAIRS ?l_PAIRS ?g__POWERS ?l__POWERS ?g_LOWER_CASE ?g_DIGITS ?g_MOST_DIGITS ?g_MOST_RECIPE_STEPS ?g_MOST_RECIPE_LETTERS ?g_TableError ?g_ZeroDivisor ?q_ZeroDivisor ?k_ZeroDivisor ?b_ZeroDivisor ?t_ZeroDivisor ?i_ZeroDivisor ?s_ZeroDivisor ?g_InvalidNumber ?q_InvalidNumber ?k_InvalidNumber ?b_InvalidNumber ?t_InvalidNumber ?i_InvalidNumber ?s_InvalidNumber ?g_WrongKind ?q_WrongKind ?k_WrongKind ?b_WrongKind ?t_WrongKind ?i_WrongKind ?s_WrongKind ?g_InvalidRecipe ?k_InvalidRecipe ?b_InvalidRecipe ?t_InvalidRecipe ?i_InvalidRecipe ?s_InvalidRecipe ?xL ?x_sa ?x_no ?x_i ?x_t ?x_ga ?x_gg ?x_hd ?g_Ratio ?pg_Ratio ?hd_Ratio ?po_Ratio ?sa_Ratio ?ha_Ratio ?hm_Ratio ?mk_Ratio ?kc_Ratio ?sf_Ratio ?g_Recipe ?pg_Recipe ?hd_Recipe ?po_Recipe ?sa_Recipe ?ha_Recipe ?hm_Recipe ?mk_Recipe ?kc_Recipe ?sf_Recipe ?hn ?ht ?no_Ratio_num ?no_Ratio_den ?no_Recipe_letters ?no_Recipe_steps ?no_Recipe_kinds ?no_Recipe_result ?no_Recipe_kind ?at_Ratio__init ?fn_Ratio__init ?l_Ratio__init ?ld_Ratio__init ?c_Ratio__init ?k_Ratio__init ?at_Ratio__eq ?fn_Ratio__eq ?l_Ratio__eq ?c_Ratio__eq ?k_Ratio__eq ?at_Ratio__str ?fn_Ratio__str ?l_Ratio__str ?c_Ratio__str ?k_Ratio__str ?a_natural ?l_natural ?c_natural ?k_natural ?a_step_kind ?l_step_kind ?c_step_kind ?k_step_kind ?at_Recipe__eq ?fn_Recipe__eq ?l_Recipe__eq ?c_Recipe__eq ?k_Recipe__eq ?at_Recipe__is_plain ?ge_Recipe__is_plain ?ta_Recipe__is_plain ?rc_Recipe__is_plain ?l_Recipe__is_plain ?c_Recipe__is_plain ?k_Recipe__is_plain ?a_kind_of_step ?l_kind_of_step ?c_kind_of_step ?k_kind_of_step ?a_show_recipe ?l_show_recipe ?c_show_recipe ?k_show_recipe ?a__read_letters ?l__read_letters ?c__read_letters ?k__read_letters ?a__read_index ?l__read_index ?c__read_index ?k__read_index ?a__law_cell ?l__law_cell ?c__law_cell ?k__law_cell ?a__law_number ?l__law_number ?c__law_number ?k__law_number ?a__law_step ?l__law_step ?c__law_step ?k__law_step ?a__law_given ?l__law_given ?c__law_given ?k__law_given ?a__law_letters ?l__law_letters ?c__law_letters ?k__law_letters ?a__law_line ?l__law_line ?c__law_line ?k__law_line ?a__law_bad_line ?l__law_bad_line ?c__law_bad_line ?k__law_bad_line ?rd_Ratio__read ?rg_Ratio__read ?at_Ratio__read ?rc_Ratio__read ?fi_Ratio__read ?l_Ratio__read ?c_Ratio__read ?k_Ratio__read ?at_Recipe__init ?fn_Recipe__init ?l_Recipe__init ?c_Recipe__init ?k_Recipe__init ?a__read_ratio ?l__read_ratio ?c__read_ratio ?k__read_ratio ?a__read_step ?l__read_step ?c__read_step ?k__read_step ?a__law_steps ?l__law_steps ?c__law_steps ?k__law_steps ?a_read_recipe ?l_read_recipe ?c_read_recipe ?k_read_recipe ?a_law ?l_law ?c_law ?k_law ?l_InvalidRecipe__init ?c_InvalidRecipe__init ?k_InvalidRecipe__init
    (case b_abs => k_is)
    (case b_any => k_is)
    (case b_enumerate => k_is)
    (case b_int => k_is)
    (case b_isinstance => k_is)
    (case b_len => k_is)
    (case b_list => k_is)
    (case b_max => k_is)
    (case b_range => k_is)
    (case b_set => k_is)
    (case b_str => k_is)
    (case b_tuple => k_is)
    (case g_gcd => k_is)
    (case g_NEW_WORDS => k_is)
    (case l_NEW_WORDS => k_is)
    (case g_PAIRS => k_is)
    (case l_PAIRS => k_is)
    (case g__POWERS => k_is)
    (case l__POWERS => k_is)
    (case g_LOWER_CASE => k_is)
    (case g_DIGITS => k_is)
    (case g_MOST_DIGITS => k_is)
    (case g_MOST_RECIPE_STEPS => k_is)
    (case g_MOST_RECIPE_LETTERS => k_is)
    (case g_TableError => k_is)
    (case g_ZeroDivisor => k_is)
    (case q_ZeroDivisor => k_exc)
    (case k_ZeroDivisor => k_is)
    (case b_ZeroDivisor => k_is)
    (case t_ZeroDivisor => k_is)
    (case i_ZeroDivisor => k_is)
    (case s_ZeroDivisor => first | rfl | k_is)
    (case g_InvalidNumber => k_is)
    (case q_InvalidNumber => k_exc)
    (case k_InvalidNumber => k_is)
    (case b_InvalidNumber => k_is)
    (case t_InvalidNumber => k_is)
    (case i_InvalidNumber => k_is)
    (case s_InvalidNumber => first | rfl | k_is)
    (case g_WrongKind => k_is)
    (case q_WrongKind => k_exc)
    (case k_WrongKind => k_is)
    (case b_WrongKind => k_is)
    (case t_WrongKind => k_is)
    (case i_WrongKind => k_is)
    (case s_WrongKind => first | rfl | k_is)
    (case g_InvalidRecipe => k_is)
    (case k_InvalidRecipe => k_is)
    (case b_InvalidRecipe => k_is)
    (case t_InvalidRecipe => k_is)
    (case i_InvalidRecipe => k_is)
    (case s_InvalidRecipe => first | rfl | k_is)
    (case xL => k_is)
    (case x_sa => k_is)
    (case x_no => k_is)
    (case x_i => k_is)
    (case x_t => k_is)
    (case x_ga => k_is)
    (case x_gg => k_is)
    (case x_hd => k_is)
    (case g_Ratio => k_is)
    (case pg_Ratio => k_is)
    (case hd_Ratio => k_is)
    (case po_Ratio => k_is)
    (case sa_Ratio => k_is)
    (case ha_Ratio => k_is)
    (case hm_Ratio => k_is)
    (case mk_Ratio => k_is)
    (case kc_Ratio => k_is)
    (case sf_Ratio => k_is)
    (case g_Recipe => k_is)
    (case pg_Recipe => k_is)
    (case hd_Recipe => k_is)
    (case po_Recipe => k_is)
    (case sa_Recipe => k_is)
    (case ha_Recipe => k_is)
    (case hm_Recipe => k_is)
    (case mk_Recipe => k_is)
    (case kc_Recipe => k_is)
    (case sf_Recipe => k_is)
    (case hn => k_is)
    (case ht => k_is)
    (case no_Ratio_num => k_is)
    (case no_Ratio_den => k_is)
    (case no_Recipe_letters => k_is)
    (case no_Recipe_steps => k_is)
    (case no_Recipe_kinds => k_is)
    (case no_Recipe_result => k_is)
    (case no_Recipe_kind => k_is)
    (case at_Ratio__init => k_is)
    (case fn_Ratio__init => k_is)
    (case l_Ratio__init => k_is)
    (case ld_Ratio__init => k_is)
    (case c_Ratio__init => k_is)
    (case k_Ratio__init => k_is)
    (case at_Ratio__eq => k_is)
    (case fn_Ratio__eq => k_is)
    (case l_Ratio__eq => k_is)
    (case c_Ratio__eq => k_is)
    (case k_Ratio__eq => k_is)
    (case at_Ratio__str => k_is)
    (case fn_Ratio__str => k_is)
    (case l_Ratio__str => k_is)
    (case c_Ratio__str => k_is)
    (case k_Ratio__str => k_is)
    (case a_natural => k_is)
    (case l_natural => k_is)
    (case c_natural => k_is)
    (case k_natural => k_is)
    (case a_step_kind => k_is)
    (case l_step_kind => k_is)
    (case c_step_kind => k_is)
    (case k_step_kind => k_is)
    (case at_Recipe__eq => k_is)
    (case fn_Recipe__eq => k_is)
    (case l_Recipe__eq => k_is)
    (case c_Recipe__eq => k_is)
    (case k_Recipe__eq => k_is)
    (case at_Recipe__is_plain => k_is)
    (case ge_Recipe__is_plain => k_is)
    (case ta_Recipe__is_plain => k_is)
    (case rc_Recipe__is_plain => k_is)
    (case l_Recipe__is_plain => k_is)
    (case c_Recipe__is_plain => k_is)
    (case k_Recipe__is_plain => k_is)
    (case a_kind_of_step => k_is)
    (case l_kind_of_step => k_is)
    (case c_kind_of_step => k_is)
    (case k_kind_of_step => k_is)
    (case a_show_recipe => k_is)
    (case l_show_recipe => k_is)
    (case c_show_recipe => k_is)
    (case k_show_recipe => k_is)
    (case a__read_letters => k_is)
    (case l__read_letters => k_is)
    (case c__read_letters => k_is)
    (case k__read_letters => k_is)
    (case a__read_index => k_is)
    (case l__read_index => k_is)
    (case c__read_index => k_is)
    (case k__read_index => k_is)
    (case a__law_cell => k_is)
    (case l__law_cell => k_is)
    (case c__law_cell => k_is)
    (case k__law_cell => k_is)
    (case a__law_number => k_is)
    (case l__law_number => k_is)
    (case c__law_number => k_is)
    (case k__law_number => k_is)
    (case a__law_step => k_is)
    (case l__law_step => k_is)
    (case c__law_step => k_is)
    (case k__law_step => k_is)
    (case a__law_given => k_is)
    (case l__law_given => k_is)
    (case c__law_given => k_is)
    (case k__law_given => k_is)
    (case a__law_letters => k_is)
    (case l__law_letters => k_is)
    (case c__law_letters => k_is)
    (case k__law_letters => k_is)
    (case a__law_line => k_is)
    (case l__law_line => k_is)
    (case c__law_line => k_is)
    (case k__law_line => k_is)
    (case a__law_bad_line => k_is)
    (case l__law_bad_line => k_is)
    (case c__law_bad_line => k_is)
    (case k__law_bad_line => k_is)
    (case rd_Ratio__read => k_is)
    (case rg_Ratio__read => k_is)
    (case at_Ratio__read => k_is)
    (case rc_Ratio__read => k_is)
    (case fi_Ratio__read => k_is)
    (case l_Ratio__read => k_is)
    (case c_Ratio__read => k_is)
    (case k_Ratio__read => k_is)
    (case at_Recipe__init => k_is)
    (case fn_Recipe__init => k_is)
    (case l_Recipe__init => k_is)
    (case c_Recipe__init => k_is)
    (case k_Recipe__init => k_is)
    (case a__read_ratio => k_is)
    (case l__read_ratio => k_is)
    (case c__read_ratio => k_is)
    (case k__read_ratio => k_is)
    (case a__read_step => k_is)
    (case l__read_step => k_is)
    (case c__read_step => k_is)
    (case k__read_step => k_is)
    (case a__law_steps => k_is)
    (case l__law_steps => k_is)
    (case c__law_steps => k_is)
    (case k__law_steps => k_is)
    (case a_read_recipe => k_is)
    (case l_read_recipe => k_is)
    (case c_read_recipe => k_is)
    (case k_read_recipe => k_is)
    (case a_law => k_is)
    (case l_law => k_is)
    (case c_law => k_is)
    (case k_law => k_is)
    (case l_InvalidRecipe__init => k_is)
    (case c_InvalidRecipe__init => k_is)
    (case k_InvalidRecipe__init => k_is)
