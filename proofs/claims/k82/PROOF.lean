import PyProof.Rows.All
import Wide.All
import OpenK.AllK
import Wide.FinOn
import KE.DataEq
import KE.DataCmp
import KE.DataMinMax
import KE.SortData
import KE.SortKeyHeap
import HandS.ForMost
import HandS.Lambda
import HandS.Style
import HandS.TupAny
import HandS.TupMul
import HandS.IsInst
import HandS.Conv
import HandS.Zip
import PyProof.Draws
import HandS.Ends
import HandS.Comp
import HandS.SortInts
import HandS.SetFor
import HandS.Strs
import HandS.TupSets
import KE.KDictZip
import KE.KDictItemsList
import HandS.ListItems
import HandS.DictEq
import HandS.DictComp
import KE.KDictCopyH
import KE.KSortKey
import KE.KNestM
import HandS.EndOwn
import HandS.Iter
import PySem.Challenge.RW_rehearsals_k82_whole_who_stays_and_paper
set_option autoImplicit true
set_option Elab.async false
set_option linter.all false
set_option maxRecDepth 100000
/-! Pi0: pure combinators over PyData. -/
namespace PI
open PySem
abbrev D := PyData
inductive R (α : Type) where
  | ok (a : α)
  | exc (c : Str)
  | bad
namespace R
def bnd {α β : Type} (r : R α) (f : α → R β) : R β := match r with
  | .ok a => f a
  | .exc c => .exc c
  | .bad => .bad
@[simp] theorem bnd_ok {α β : Type} (a : α) (f : α → R β) : (R.ok a).bnd f = f a := rfl
@[simp] theorem bnd_exc {α β : Type} (c : Str) (f : α → R β) : (R.exc c : R α).bnd f = .exc c := rfl
@[simp] theorem bnd_bad {α β : Type} (f : α → R β) : (R.bad : R α).bnd f = .bad := rfl
theorem bnd_assoc {α β γ : Type} (r : R α) (f : α → R β) (g : β → R γ) : (r.bnd f).bnd g = r.bnd fun a => (f a).bnd g := by cases r <;> rfl
/-- what is wanted of a result -/
def RD {α : Type} (r : R α) (P : α → Prop) (E : Str → Prop) : Prop := match r with
  | .ok a => P a
  | .exc c => E c
  | .bad => False
@[simp] theorem RD_ok {α : Type} (a : α) (P : α → Prop) (E : Str → Prop) : (R.ok a).RD P E = P a := rfl
@[simp] theorem RD_exc {α : Type} (c : Str) (P : α → Prop) (E : Str → Prop) : (R.exc c : R α).RD P E = E c := rfl
@[simp] theorem RD_bad {α : Type} (P : α → Prop) (E : Str → Prop) : (R.bad : R α).RD P E = False := rfl
theorem RD_bnd {α β : Type} (r : R α) (f : α → R β) (P : β → Prop) (E : Str → Prop) : (r.bnd f).RD P E = r.RD (fun a => (f a).RD P E) E := by cases r <;> rfl
theorem RD.mono {α : Type} {r : R α} {P P' : α → Prop} {E E' : Str → Prop} (h : r.RD P E) (hp : ∀ a, P a → P' a) (he : ∀ c, E c → E' c) : r.RD P' E' := by
  cases r with
  | ok a => exact hp a h
  | exc c => exact he c h
  | bad => exact h
/-- no exception is let out -/
def nox {α : Type} (r : R α) : R α := match r with
  | .exc _ => .bad
  | r => r
@[simp] theorem nox_ok {α : Type} (a : α) : (R.ok a).nox = .ok a := rfl
@[simp] theorem nox_bad {α : Type} : (R.bad : R α).nox = .bad := rfl
@[simp] theorem nox_exc {α : Type} (c : Str) : (R.exc c : R α).nox = .bad := rfl
def map {α β : Type} (f : α → β) (r : R α) : R β := r.bnd fun a => .ok (f a)
@[simp] theorem map_ok {α β : Type} (f : α → β) (a : α) : (R.ok a).map f = .ok (f a) := rfl
end R
open R
/-- an own object's content -/
inductive OC where
  | lst (ds : List D)
  | dct (t : Bool) (kvs : List (D × D))
/-- a dict's pairs; those of one with tuples as keys behind a mark -/
def mkD (t : Bool) (kvs : List (D × D)) : List (D × D) := match t with
  | false => kvs
  | true => (.none, .none) :: kvs
def OC.d : OC → D
  | .lst ds => .list ds
  | .dct t kvs => .dict (mkD t kvs)
def OC.isL : OC → Bool
  | .lst _ => true
  | .dct _ _ => false
/-- what a slot holds: shared data; an own object (true: of this run; false: the caller's) -/
inductive MV where
  | sh (d : D)
  | ow (k : Bool) (c : OC)
def MV.d : MV → D
  | .sh d => d
  | .ow _ c => c.d
abbrev Env := List (Option MV)
/-- what an expression gives: shared data, a new object, the own object of a slot -/
inductive RV where
  | sh (d : D)
  | fr (c : OC)
  | br (i : Nat)
  | no
abbrev FE := Env → R (RV × Env)
abbrev FT := Env → R (Bool × Env)
def rd (env : Env) : RV → R D
  | .sh d => .ok d
  | .fr c => .ok c.d
  | .br i => match env[i]? with
    | some (some m) => .ok m.d
    | _ => .bad
  | .no => .bad
def fz (env : Env) : RV → R (D × Env)
  | .sh d => .ok (d, env)
  | .fr (.lst ds) => .ok (.list ds, env)
  | .fr _ => .bad
  | .br i => match env[i]? with
    | some (some (.sh d)) => .ok (d, env)
    | some (some (.ow true (.lst ds))) => .ok (.list ds, env.set i (some (.sh (.list ds))))
    | _ => .bad
  | .no => .bad
/-- .. a dict, too: it is locked -/
def fzL (env : Env) : RV → R (D × Env)
  | .fr (.dct t kvs) => .ok (.dict (mkD t kvs), env)
  | .br i => match env[i]? with
    | some (some (.ow true (.dct t kvs))) => .ok (.dict (mkD t kvs), env.set i (some (.sh (.dict (mkD t kvs)))))
    | _ => fz env (.br i)
  | r => fz env r
def hold : RV → RV
  | .fr (.lst ds) => .sh (.list ds)
  | .fr _ => .no
  | r => r
@[simp] theorem rd_sh (env : Env) (d : D) : rd env (.sh d) = .ok d := rfl
@[simp] theorem rd_fr (env : Env) (c : OC) : rd env (.fr c) = .ok c.d := rfl
@[simp] theorem fz_sh (env : Env) (d : D) : fz env (.sh d) = .ok (d, env) := rfl
@[simp] theorem fz_fr (env : Env) (ds : List D) : fz env (.fr (.lst ds)) = .ok (.list ds, env) := rfl
@[simp] theorem hold_sh (d : D) : hold (.sh d) = .sh d := rfl
@[simp] theorem hold_fr (ds : List D) : hold (.fr (.lst ds)) = .sh (.list ds) := rfl
@[simp] theorem fzL_sh (env : Env) (d : D) : fzL env (.sh d) = .ok (d, env) := rfl
@[simp] theorem fzL_fr (env : Env) (c : OC) : fzL env (.fr c) = .ok (c.d, env) := by cases c <;> rfl
@[simp] theorem hold_br (i : Nat) : hold (.br i) = .br i := rfl
@[simp] theorem OC.d_lst (ds : List D) : (OC.lst ds).d = .list ds := rfl
@[simp] theorem MV.d_sh (d : D) : (MV.sh d).d = d := rfl
@[simp] theorem MV.d_ow (k : Bool) (c : OC) : (MV.ow k c).d = c.d := rfl
/-! ### expressions -/
def fName (i : Nat) : FE := fun env => match env[i]? with
  | some (some (.sh d)) => .ok (.sh d, env)
  | some (some (.ow _ _)) => .ok (.br i, env)
  | _ => .bad
def fC (d : D) : FE := fun env => .ok (.sh d, env)
def fBin (g : D → D → R RV) (a b : FE) : FE := fun env =>
  (a env).bnd fun x => (b x.2).bnd fun y => (rd y.2 (hold x.1)).bnd fun d1 => (rd y.2 (hold y.1)).bnd fun d2 => (g d1 d2).nox.bnd fun r => .ok (r, y.2)
def fUn (g : D → R RV) (a : FE) : FE := fun env => (a env).bnd fun x => (rd x.2 (hold x.1)).bnd fun d => (g d).nox.bnd fun r => .ok (r, x.2)
/-- written arguments, each handed on -/
def fArgs : List FE → Env → R (List D × Env)
  | [], env => .ok ([], env)
  | a :: as, env => (a env).bnd fun x => (fzL x.2 x.1).bnd fun y => (fArgs as y.2).bnd fun z => .ok (y.1 :: z.1, z.2)
def fTup (as : List FE) : FE := fun env => (fArgs as env).bnd fun z => .ok (.sh (.tuple z.1), z.2)
def fLst (as : List FE) : FE := fun env => (fArgs as env).bnd fun z => .ok (.fr (.lst z.1), z.2)
/-- written arguments, looked at when all are there -/
def fHeld : List FE → Env → R (List RV × Env)
  | [], env => .ok ([], env)
  | a :: as, env => (a env).bnd fun x => (fHeld as x.2).bnd fun z => .ok (hold x.1 :: z.1, z.2)
def rdAll (env : Env) : List RV → R (List D)
  | [] => .ok []
  | r :: rs => (rd env r).bnd fun d => (rdAll env rs).bnd fun ds => .ok (d :: ds)
def fBi (g : List D → R RV) (as : List FE) : FE := fun env =>
  (fHeld as env).bnd fun z => (rdAll z.2 z.1).bnd fun ds => (g ds).nox.bnd fun r => .ok (r, z.2)
def isOwnL : Option (Option MV) → Bool
  | some (some (.ow _ (.lst _))) => true
  | _ => false
def noBr : RV → R RV
  | .br _ => .bad
  | .no => .bad
  | r => .ok r
/-- a def that changes nothing of its caller's -/
def fCall (F : List D → R RV) (as : List FE) : FE := fun env => (fArgs as env).bnd fun z => (F z.1).bnd fun r => (noBr r).bnd fun r => .ok (r, z.2)
/-- a def whose first parameter is a list of the caller's that it changes -/
def fCallIO (F : List D → List D → R (RV × List D)) (i : Nat) (as : List FE) : FE := fun env => if isOwnL env[i]? then (fArgs as env).bnd fun z => match z.2[i]? with
    | some (some (.ow k (.lst cs))) => (F cs z.1).bnd fun r => (noBr r.1).bnd fun v => .ok (v, z.2.set i (some (.ow k (.lst r.2))))
    | _ => .bad
  else .bad
def tVal (a : FE) : FT := fun env => (a env).bnd fun x => match x.1 with
  | .sh (.bool b) => .ok (b, x.2)
  | _ => .bad
def tNot (t : FT) : FT := fun env => (t env).bnd fun x => .ok (!x.1, x.2)
def tAnd (t u : FT) : FT := fun env => (t env).bnd fun x => if x.1 then u x.2 else .ok (false, x.2)
def tOr (t u : FT) : FT := fun env => (t env).bnd fun x => if x.1 then .ok (true, x.2) else u x.2
def tYes : FT := fun env => .ok (true, env)
def fIf (t : FT) (a b : FE) : FE := fun env => (t env).bnd fun x => if x.1 then a x.2 else b x.2
def fAnd (a b : FE) : FE := fun env => (a env).bnd fun x => match x.1 with
  | .sh (.bool c) => if c then b x.2 else .ok (.sh (.bool false), x.2)
  | _ => .bad
def fOr (a b : FE) : FE := fun env => (a env).bnd fun x => match x.1 with
  | .sh (.bool c) => if c then .ok (.sh (.bool true), x.2) else b x.2
  | _ => .bad
def fNot (a : FE) : FE := fun env => (a env).bnd fun x => match x.1 with
  | .sh (.bool c) => .ok (.sh (.bool (!c)), x.2)
  | _ => .bad
/-- a < b < c -/
def fChain (g g' : D → D → R RV) (a b c : FE) : FE := fun env =>
  (a env).bnd fun x => (b x.2).bnd fun y => (rd y.2 (hold x.1)).bnd fun d1 => (rd y.2 (hold y.1)).bnd fun d2 => (g d1 d2).nox.bnd fun r => match r with
    | .sh (.bool k) => if k then (c y.2).bnd fun z => (rd z.2 (hold y.1)).bnd fun e2 => (rd z.2 (hold z.1)).bnd fun e3 => (g' e2 e3).nox.bnd fun r => .ok (r, z.2) else .ok (.sh (.bool false), y.2)
    | _ => .bad
/-! ### targets -/
abbrev FG := D → Env → R Env
def gName (i : Nat) : FG := fun d env => .ok (env.set i (some (.sh d)))
def gSeq : List FG → List D → Env → R Env
  | [], [], env => .ok env
  | g :: gs, d :: ds, env => (g d env).bnd fun e => gSeq gs ds e
  | _, _, _ => .bad
def gTup (gs : List FG) : FG := fun d env => match d with
  | .tuple ds => gSeq gs ds env
  | _ => .bad
/-! ### what is walked -/
abbrev FI := Env → R (List D × Env)
/-- a list or a tuple -/
def seqOf : D → R (List D)
  | .list ds => .ok ds
  | .tuple ds => .ok ds
  | .dict ((.none, .none) :: kvs) => .ok (kvs.map (·.1))
  | .dict kvs => .ok (kvs.map (·.1))
  | _ => .bad
/-- a list or a tuple, not a dict -/
def sqOf : D → R (List D)
  | .list ds => .ok ds
  | .tuple ds => .ok ds
  | _ => .bad
def iSeq (a : FE) : FI := fun env => (a env).bnd fun x => (fzL x.2 x.1).bnd fun y => (seqOf y.1).bnd fun ds => .ok (ds, y.2)
/-- lo, lo + 1, .., n of them -/
def rng (lo : Int) : Nat → List D
  | 0 => []
  | n + 1 => .int lo :: rng (lo + 1) n
def iRange1 (a : FE) : FI := fun env => (fArgs [a] env).bnd fun z => match z.1 with
  | [.int j] => if j.natAbs ≤ 16777216 then .ok (rng 0 j.toNat, z.2) else .bad
  | _ => .bad
def iRange2 (a b : FE) : FI := fun env => (fArgs [a, b] env).bnd fun z => match z.1 with
  | [.int i, .int j] => if j.natAbs ≤ 4194304 ∧ i.natAbs ≤ 4194304 then .ok (rng i (j - i).toNat, z.2) else .bad
  | _ => .bad
def enumFrom (i : Int) : List D → List D
  | [] => []
  | d :: ds => .tuple [.int i, d] :: enumFrom (i + 1) ds
def iEnum (a : FE) : FI := fun env => (fArgs [a] env).bnd fun z => match z.1 with
  | [d] => (sqOf d).bnd fun ds => .ok (enumFrom 0 ds, z.2)
  | _ => .bad
def zipD : List D → List D → List D
  | d :: ds, e :: es => .tuple [d, e] :: zipD ds es
  | _, _ => []
def iZip (a b : FE) : FI := fun env => (fArgs [a, b] env).bnd fun z => match z.1 with
  | [d, e] => (sqOf d).bnd fun ds => (sqOf e).bnd fun es => .ok (zipD ds es, z.2)
  | _ => .bad
/-! ### comprehensions -/
def wipeE (env : Env) : List Nat → Env
  | [] => env
  | v :: vs => (wipeE env vs).set v none
def shOnly : Option (Option MV) → Option MV
  | some (some (.sh d)) => some (.sh d)
  | _ => none
/-- behind a comprehension: its own names as they were -/
def backE (old env : Env) : List Nat → Env
  | [] => env
  | v :: vs => (backE old env vs).set v (shOnly old[v]?)
def compL (tg : FG) (ts : FT) (el : FE) (own : List Nat) : List D → Env → List D → R (List D × Env)
  | [], env, acc => .ok (acc, env)
  | x :: xs, env, acc => (tg x env).nox.bnd fun e1 => (ts e1).bnd fun t => if t.1 then
      (el t.2).bnd fun r => (fz r.2 r.1).bnd fun y => compL tg ts el own xs (wipeE y.2 own) (acc ++ [y.1])
    else compL tg ts el own xs (wipeE t.2 own) acc
def fComp (own : List Nat) (fi : FI) (tg : FG) (ts : FT) (el : FE) : FE := fun env =>
  (fi env).bnd fun z => (compL tg ts el own z.1 (wipeE z.2 own) []).nox.bnd fun o => .ok (.fr (.lst o.1), backE z.2 o.2 own)
/-- two for clauses -/
def compL2 (tg : FG) (ts : FT) (fi1 : FI) (tg1 : FG) (ts1 : FT) (el : FE) (own own1 : List Nat) : List D → Env → List D → R (List D × Env)
  | [], env, acc => .ok (acc, env)
  | x :: xs, env, acc => (tg x env).nox.bnd fun e1 => (ts e1).bnd fun t => if t.1 then
      (fi1 t.2).bnd fun z => (compL tg1 ts1 el own1 z.1 (wipeE z.2 own1) acc).bnd fun o =>
        if o.1.length ≤ 16777216 then compL2 tg ts fi1 tg1 ts1 el own own1 xs (wipeE o.2 own) o.1 else .bad
    else compL2 tg ts fi1 tg1 ts1 el own own1 xs (wipeE t.2 own) acc
def fComp2 (own own1 : List Nat) (fi : FI) (tg : FG) (ts : FT) (fi1 : FI) (tg1 : FG) (ts1 : FT) (el : FE) : FE := fun env =>
  (fi env).bnd fun z => (compL2 tg ts fi1 tg1 ts1 el own own1 z.1 (wipeE z.2 own) []).nox.bnd fun o => .ok (.fr (.lst o.1), backE z.2 o.2 own)
/-! ### statements -/
inductive Out where
  | nx (env : Env)
  | rt (r : RV) (env : Env)
  | bk (env : Env)
  | ct (env : Env)
abbrev FS := Env → R Out
def sSkip : FS := fun env => .ok (.nx env)
def sSeq (s t : FS) : FS := fun env => (s env).bnd fun o => match o with
  | .nx e => t e
  | o => .ok o
def sBreak : FS := fun env => .ok (.bk env)
def sCont : FS := fun env => .ok (.ct env)
/-- a value goes to a name -/
def stow (i : Nat) (r : RV) (env : Env) : R Env := match r with
  | .sh d => .ok (env.set i (some (.sh d)))
  | .fr c => .ok (env.set i (some (.ow true c)))
  | .br j => (fz env (.br j)).bnd fun y => .ok (y.2.set i (some (.sh y.1)))
  | .no => .bad
def stowL (i : Nat) (r : RV) (env : Env) : R Env := match r with
  | .br j => (fzL env (.br j)).bnd fun y => .ok (y.2.set i (some (.sh y.1)))
  | r => stow i r env
def sSet (i : Nat) (a : FE) : FS := fun env => (a env).bnd fun x => (stowL i x.1 x.2).bnd fun e => .ok (.nx e)
/-- .. a comprehension's list -/
def sSetC (i : Nat) (a : FE) : FS := fun env => (a env).bnd fun x => (stow i x.1 x.2).bnd fun e => .ok (.nx e)
/-- any target, from shared data -/
def sAsg (g : FG) (a : FE) : FS := fun env => (a env).bnd fun x => (fzL x.2 x.1).bnd fun y => (g y.1 y.2).nox.bnd fun e => .ok (.nx e)
/-- a, b = x, y -/
def sPar (i j : Nat) (a b : FE) : FS := fun env => (a env).bnd fun x => match x.1 with
  | .br _ => .bad
  | .no => .bad
  | x1 => (b x.2).bnd fun y => match y.1 with
    | .br _ => .bad
    | .no => .bad
    | y1 => (stow i x1 y.2).bnd fun e => (stow j y1 e).bnd fun e => .ok (.nx e)
/-- a, b, c = x, y, z: shared data -/
def sPar3 (i j l : Nat) (a b c : FE) : FS := fun env => (a env).bnd fun x => (fz x.2 x.1).bnd fun x => (b x.2).bnd fun y => (fz y.2 y.1).bnd fun y => (c y.2).bnd fun z => (fz z.2 z.1).bnd fun z =>
  .ok (.nx (((z.2.set i (some (.sh x.1))).set j (some (.sh y.1))).set l (some (.sh z.1))))
def sIf (t : FT) (a b : FS) : FS := fun env => (t env).bnd fun x => if x.1 then a x.2 else b x.2
/-- what is handed back -/
def outOf (r : RV) (env : Env) : R Out := match r with
  | .br i => match env[i]? with
    | some (some (.sh d)) => .ok (.rt (.sh d) env)
    | some (some (.ow true c)) => .ok (.rt (.fr c) (env.set i none))
    | _ => .bad
  | .no => .bad
  | r => .ok (.rt r env)
def sRet (a : FE) : FS := fun env => (a env).bnd fun x => outOf x.1 x.2
def sRetN : FS := fun env => .ok (.rt (.sh .none) env)
def sExpr (a : FE) : FS := fun env => (a env).bnd fun x => .ok (.nx x.2)
def sRaise (c : Str) : FS := fun _ => .exc c
def sNever : FS := fun _ => .bad
/-- x.append(e) -/
def sApp (i : Nat) (a : FE) : FS := fun env => if isOwnL env[i]? then (a env).bnd fun x => (fzL x.2 x.1).bnd fun y => match y.2[i]? with
    | some (some (.ow k (.lst ds))) => if ds.length < 16777216 then .ok (.nx (y.2.set i (some (.ow k (.lst (ds ++ [y.1])))))) else .bad
    | _ => .bad
  else .bad
/-- a place of a list -/
def ixN (n : Nat) (i : Int) : Option Nat := if 0 ≤ i then (if i < n then some i.toNat else none) else if -(n : Int) ≤ i then some (i + n).toNat else none
/-! dicts: a key as it may be asked for; what stands there; what is put -/
def keyB : D → Bool
  | .int _ => true
  | .str _ => true
  | _ => false
def okKey : Bool → D → Bool
  | false, d => keyB d
  | true, .tuple ds => ds.all keyB
  | true, _ => false
def look (kvs : List (D × D)) (k : D) : Option D := (kvs.find? fun p => PyData.eqv p.1 k).map (·.2)
def putD (kvs : List (D × D)) (k v : D) : List (D × D) := if (kvs.any fun p => PyData.eqv p.1 k) = true then kvs.map (fun p => if PyData.eqv p.1 k = true then (p.1, v) else p) else kvs ++ [(k, v)]
def isOwnC : Option (Option MV) → Bool
  | some (some (.ow _ (.lst _))) => true
  | some (some (.ow true (.dct _ _))) => true
  | _ => false
/-- x[k] = e, x a list, a dict -/
def sPut (i : Nat) (k : FE) (a : FE) : FS := fun env => (a env).bnd fun x => (fzL x.2 x.1).bnd fun y => if isOwnC y.2[i]? then (k y.2).bnd fun z => match z.1, z.2[i]? with
    | .sh (.int j), some (some (.ow b (.lst ds))) => match ixN ds.length j with
      | some n => .ok (.nx (z.2.set i (some (.ow b (.lst (ds.set n y.1))))))
      | none => .bad
    | .sh d, some (some (.ow true (.dct t kvs))) => if okKey t d = true ∧ kvs.length < 16777216 then .ok (.nx (z.2.set i (some (.ow true (.dct t (putD kvs d y.1)))))) else .bad
    | _, _ => .bad
  else .bad
def forL (tg : FG) (body : FS) : List D → Env → R Out
  | [], env => .ok (.nx env)
  | x :: xs, env => (tg x env).nox.bnd fun e1 => (body e1).bnd fun o => match o with
    | .nx e2 => forL tg body xs e2
    | .ct e2 => forL tg body xs e2
    | .bk e2 => .ok (.nx e2)
    | .rt r e2 => .ok (.rt r e2)
def sFor (fi : FI) (tg : FG) (body : FS) : FS := fun env => (fi env).bnd fun z => forL tg body z.1 z.2
def whileL (t : FT) (body : FS) : Nat → Env → R Out
  | 0, _ => .bad
  | n + 1, env => (t env).bnd fun x => if x.1 then (body x.2).bnd fun o => match o with
      | .nx e2 => whileL t body n e2
      | .ct e2 => whileL t body n e2
      | .bk e2 => .ok (.nx e2)
      | .rt r e2 => .ok (.rt r e2)
    else .ok (.nx x.2)
def sWhile (n : Nat) (t : FT) (body : FS) : FS := fun env => whileL t body n env
/-! ### defs -/
/-- a def's run: parameters, how many names -/
def runF (n : Nat) (body : FS) (ds : List D) : R RV :=
  (body (ds.map (fun d => some (.sh d)) ++ List.replicate (n - ds.length) none)).bnd fun o => match o with
    | .nx _ => .ok (.sh .none)
    | .rt r _ => noBr r
    | _ => .bad
/-- .. whose first parameter is the caller's list -/
def runIO (n : Nat) (body : FS) (cs ds : List D) : R (RV × List D) :=
  (body (some (.ow false (.lst cs)) :: (ds.map (fun d => some (.sh d)) ++ List.replicate (n - (ds.length + 1)) none))).bnd fun (o : Out) => match o with
    | .nx e => match (e[0]? : Option (Option MV)) with
      | some (some (.ow false (.lst cs'))) => .ok (.sh .none, cs')
      | _ => .bad
    | .rt r e => match (e[0]? : Option (Option MV)) with
      | some (some (.ow false (.lst cs'))) => (noBr r).bnd fun r => .ok (r, cs')
      | _ => .bad
    | _ => .bad
end PI
set_option autoImplicit false
set_option Elab.async false
set_option linter.all false
set_option maxRecDepth 100000
set_option autoImplicit false
/-! Pi1: what the combinators' data stand for in the hand layer's heaps; readings. -/
namespace PI
open PySem PySem.Spec PyProof.Rows L2 R
abbrev St := L2.St
/-- a dict's key as data -/
def kD : Key → D
  | .inl i => .int i
  | .inr x => .str x
def kDs (k : List Key) : D := .tuple (k.map kD)
mutual
inductive Dq (H : Hp) : V → D → Prop where
  | non : Dq H .non .none
  | bl (b : Bool) : Dq H (.bl b) (.bool b)
  | int (i : Int) : Dq H (.int i) (.int i)
  | str (x : Str) : Dq H (.str x) (.str x)
  | lst {a : Addr} {xs : List V} {ds : List D} : H a = some (.lst xs) → xs.length ≤ sizeLine → DqAll H xs ds → Dq H (.ref a) (.list ds)
  | tup {a : Addr} {xs : List V} {ds : List D} : H a = some (.tup xs) → xs.length ≤ sizeLine → DqAll H xs ds → Dq H (.ref a) (.tuple ds)
  | dctK {a : Addr} {o : Obj} {ks : List (Key × V)} {kvs : List (D × D)} : H a = some (.frz o (.dK ks)) → ks.length ≤ sizeLine → DqK H ks kvs → Dq H (.ref a) (.dict kvs)
  | dctT {a : Addr} {o : Obj} {ks : List (List Key × V)} {kvs : List (D × D)} : H a = some (.frz o (.dT ks)) → ks.length ≤ sizeLine → DqT H ks kvs → Dq H (.ref a) (.dict ((.none, .none) :: kvs))
inductive DqAll (H : Hp) : List V → List D → Prop where
  | nil : DqAll H [] []
  | cons {v : V} {vs : List V} {d : D} {ds : List D} : Dq H v d → DqAll H vs ds → DqAll H (v :: vs) (d :: ds)
inductive DqK (H : Hp) : List (Key × V) → List (D × D) → Prop where
  | nil : DqK H [] []
  | cons {k : Key} {v : V} {ks : List (Key × V)} {d : D} {kvs : List (D × D)} : Dq H v d → DqK H ks kvs → DqK H ((k, v) :: ks) ((kD k, d) :: kvs)
inductive DqT (H : Hp) : List (List Key × V) → List (D × D) → Prop where
  | nil : DqT H [] []
  | cons {k : List Key} {v : V} {ks : List (List Key × V)} {d : D} {kvs : List (D × D)} : k.length ≤ sizeLine → Dq H v d → DqT H ks kvs → DqT H ((k, v) :: ks) ((kDs k, d) :: kvs)
end
section
variable {H H' : Hp} {K : PySem.W.Frag}
mutual
theorem Dq.mono (e : Same H H') : ∀ {d : D} {v : V}, Dq H v d → Dq H' v d
  | .none, _, .non => .non
  | .bool _, _, .bl b => .bl b
  | .int _, _, .int i => .int i
  | .str _, _, .str x => .str x
  | .list ds, _, .lst h z r => .lst (e _ _ h) z (DqAll.mono e r)
  | .tuple ds, _, .tup h z r => .tup (e _ _ h) z (DqAll.mono e r)
  | .dict ds, _, .dctK h z r => .dctK (e _ _ h) z (DqK.mono e r)
  | .dict ((_, _) :: ds), _, .dctT h z r => .dctT (e _ _ h) z (DqT.mono e r)
theorem DqAll.mono (e : Same H H') : ∀ {ds : List D} {vs : List V}, DqAll H vs ds → DqAll H' vs ds
  | [], _, .nil => .nil
  | _ :: _, _, .cons h r => .cons (Dq.mono e h) (DqAll.mono e r)
theorem DqK.mono (e : Same H H') : ∀ {ds : List (D × D)} {vs : List (Key × V)}, DqK H vs ds → DqK H' vs ds
  | [], _, .nil => .nil
  | (_, _) :: _, _, .cons h r => .cons (Dq.mono e h) (DqK.mono e r)
theorem DqT.mono (e : Same H H') : ∀ {ds : List (D × D)} {vs : List (List Key × V)}, DqT H vs ds → DqT H' vs ds
  | [], _, .nil => .nil
  | (_, _) :: _, _, .cons z h r => .cons z (Dq.mono e h) (DqT.mono e r)
end
mutual
theorem Dq.dp : ∀ {d : D} {v : V}, d.plain = true → Dq H v d → Dp K H v d
  | .none, _, _, .non => .non
  | .bool _, _, _, .bl b => .bl b
  | .int _, _, _, .int i => .int i
  | .str _, _, _, .str x => .str x
  | .list ds, _, q, .lst h z r => .lst (SqL.of h) (DqAll.dp (by simpa only [PyData.plain] using q) r)
  | .tuple ds, _, q, .tup h z r => .tup (SqT.of h) (DqAll.dp (by simpa only [PyData.plain] using q) r)
  | .dict _, _, q, _ => by simp [PyData.plain] at q
theorem DqAll.dp : ∀ {ds : List D} {vs : List V}, PyData.plainAll ds = true → DqAll H vs ds → DpAll K H vs ds
  | [], _, _, .nil => .nil
  | _ :: _, _, q, .cons h r => by
    rw [PyData.plainAll, Bool.and_eq_true] at q
    exact .cons (Dq.dp q.1 h) (DqAll.dp q.2 r)
end
theorem DqAll.length : ∀ {ds : List D} {vs : List V}, DqAll H vs ds → vs.length = ds.length
  | _, _, .nil => rfl
  | _, _, .cons _ r => by simp [DqAll.length r]
theorem DqAll.get : ∀ {ds : List D} {vs : List V} {i : Nat} {d : D}, DqAll H vs ds → ds[i]? = some d → ∃ v, vs[i]? = some v ∧ Dq H v d
  | _, _, _, _, .nil, e => by simp at e
  | _, _, 0, _, .cons h _, e => by simp at e; subst e; exact ⟨_, rfl, h⟩
  | _, _, i + 1, _, .cons _ r, e => by simpa using DqAll.get (i := i) r (by simpa using e)
theorem DqAll.append : ∀ {ds es : List D} {vs ws : List V}, DqAll H vs ds → DqAll H ws es → DqAll H (vs ++ ws) (ds ++ es)
  | _, _, _, _, .nil, s => s
  | _, _, _, _, .cons h r, s => .cons h (DqAll.append r s)
theorem DqAll.drop : ∀ (n : Nat) {ds : List D} {vs : List V}, DqAll H vs ds → DqAll H (vs.drop n) (ds.drop n)
  | 0, _, _, r => r
  | _ + 1, _, _, .nil => .nil
  | n + 1, _, _, .cons _ r => DqAll.drop n r
theorem DqAll.take : ∀ (n : Nat) {ds : List D} {vs : List V}, DqAll H vs ds → DqAll H (vs.take n) (ds.take n)
  | 0, _, _, r => .nil
  | _ + 1, _, _, .nil => .nil
  | n + 1, _, _, .cons h r => .cons h (DqAll.take n r)
theorem DqAll.set {v : V} {d : D} (h : Dq H v d) : ∀ (n : Nat) {ds : List D} {vs : List V}, DqAll H vs ds → DqAll H (vs.set n v) (ds.set n d)
  | _, _, _, .nil => .nil
  | 0, _, _, .cons _ r => .cons h r
  | n + 1, _, _, .cons h' r => .cons h' (DqAll.set h n r)
theorem DqAll.one {v : V} {d : D} (h : Dq H v d) : DqAll H [v] [d] := .cons h .nil
theorem DqAll.flat {ds : List D} {vs : List V} (h : DqAll H vs ds) : ∀ k : Nat, DqAll H (List.replicate k vs).flatten (List.replicate k ds).flatten
  | 0 => .nil
  | k + 1 => by simp only [List.replicate_succ, List.flatten_cons]; exact h.append (DqAll.flat h k)
theorem DqAll.reverse : ∀ {ds : List D} {vs : List V}, DqAll H vs ds → DqAll H vs.reverse ds.reverse
  | _, _, .nil => .nil
  | _, _, .cons h r => by simp only [List.reverse_cons]; exact (DqAll.reverse r).append (.one h)
theorem DqAll.ints : ∀ {ns : List Int}, DqAll H (ns.map V.int) (ns.map PyData.int)
  | [] => .nil
  | n :: ns => .cons (.int n) DqAll.ints
theorem DqAll.ints_of : ∀ {ns : List Int} {vs : List V}, DqAll H vs (ns.map PyData.int) → vs = ns.map V.int
  | [], _, .nil => rfl
  | n :: ns, _, .cons h r => by cases h; rw [DqAll.ints_of r]; rfl
theorem DqAll.bls_of : ∀ {bs : List Bool} {vs : List V}, DqAll H vs (bs.map PyData.bool) → vs = bs.map V.bl
  | [], _, .nil => rfl
  | n :: ns, _, .cons h r => by cases h; rw [DqAll.bls_of r]; rfl
end
theorem same_upd {H : Hp} {p : Addr} {o : HO} (h : H p = none) : Same H (upd H p o) := fun b x e => by
  rw [upd_ne (ne_of_none e h)]
  exact e
theorem same_upd2 {H H' : Hp} {p : Addr} {o : HO} (s : Same H H') (h : H p = none) : Same H (upd H' p o) := fun b x e => by
  rw [upd_ne (ne_of_none e h)]
  exact s _ _ e
/-- an own object's content in the heap -/
def OCR (Hs : Hp) (c : OC) (o : HO) : Prop := match c with
  | .lst ds => ∃ xs, o = .lst xs ∧ xs.length ≤ sizeLine ∧ DqAll Hs xs ds
  | .dct false kvs => ∃ ks, o = .dK ks ∧ ks.length ≤ sizeLine ∧ DqK Hs ks kvs
  | .dct true kvs => ∃ ks, o = .dT ks ∧ ks.length ≤ sizeLine ∧ DqT Hs ks kvs
theorem OCR.mono {Hs Hs' : Hp} (e : Same Hs Hs') {c : OC} {o : HO} (h : OCR Hs c o) : OCR Hs' c o := by
  cases c with
  | lst ds => obtain ⟨xs, h1, h2, h3⟩ := h; exact ⟨xs, h1, h2, h3.mono e⟩
  | dct t kvs =>
    cases t with
    | false => obtain ⟨xs, h1, h2, h3⟩ := h; exact ⟨xs, h1, h2, h3.mono e⟩
    | true => obtain ⟨xs, h1, h2, h3⟩ := h; exact ⟨xs, h1, h2, h3.mono e⟩
def isTp : HO → Bool
  | .tup _ => true
  | .tbl _ => true
  | _ => false
theorem OCR.ntp {Hs : Hp} {c : OC} {o : HO} (h : OCR Hs c o) : isTp o = false := by
  cases c with
  | lst ds => obtain ⟨xs, rfl, _⟩ := h; rfl
  | dct t kvs =>
    cases t with
    | false => obtain ⟨xs, rfl, _⟩ := h; rfl
    | true => obtain ⟨xs, rfl, _⟩ := h; rfl
/-- the tables of code objects of the defs that hold a lambda, with the lambda's name -/
class Tables where
  T : List (Addr × Str)
def NoTb (H : Hp) : Prop := ∀ b ps, H b ≠ some (.tbl ps)
theorem NoTb.upd {H : Hp} {p : Addr} {o : HO} (h : NoTb H) (ho : ∀ ps, o ≠ .tbl ps) : NoTb (upd H p o) := fun b ps e => by
  by_cases hb : b = p
  · subst hb; rw [upd_same] at e; exact ho ps (Option.some.inj e)
  · rw [upd_ne hb] at e; exact h b ps e
theorem NoTb.sub {H H' : Hp} (h : NoTb H') (e : ∀ b o, H b = some o → H' b = some o) : NoTb H := fun b ps z => h b ps (e b _ z)
/-- neither a table nor a code object -/
def notX : HO → Bool
  | .tbl _ => false
  | .ext _ => false
  | _ => true
theorem notX_tb {o : HO} (h : notX o = true) : ∀ ps, o ≠ .tbl ps := fun ps e => by subst e; cases h
theorem tabs_upd {T : List (Addr × Str)} {H : Hp} {p : Addr} {o : HO} (t : LamX.Tabs T H) (h : ∀ u, H p = some u → notX u = true) : LamX.Tabs T (upd H p o) := fun q hq => by
  obtain ⟨ps, h1, h2, h3⟩ := t q hq
  have n1 : q.1 ≠ p := fun z => by rw [z] at h1; have := h _ h1; cases this
  refine ⟨ps, by rw [upd_ne n1]; exact h1, h2, fun pos cv hc => ?_⟩
  obtain ⟨c, e1, e2⟩ := h3 pos cv hc
  have n2 : c ≠ p := fun z => by rw [z] at e2; have := h _ e2; unfold LamX.CodeO at this; cases this
  exact ⟨c, e1, by rw [upd_ne n2]; exact e2⟩
theorem tabs_new {T : List (Addr × Str)} {H : Hp} {p : Addr} {o : HO} (t : LamX.Tabs T H) (h : H p = none) : LamX.Tabs T (upd H p o) := tabs_upd t fun u e => by rw [h] at e; cases e
theorem OCR.nx {Hs : Hp} {c : OC} {o : HO} (h : OCR Hs c o) : notX o = true := by
  cases c with
  | lst ds => obtain ⟨xs, rfl, _⟩ := h; rfl
  | dct t kvs =>
    cases t with
    | false => obtain ⟨xs, rfl, _⟩ := h; rfl
    | true => obtain ⟨xs, rfl, _⟩ := h; rfl
/-- the objects that must stay; the caller's that may change -/
structure Fm where
  Fr : Hp
  io : Addr → Prop
def Own (S : Fm) (Hs H : Hp) (k : Bool) (p : Addr) (c : OC) : Prop :=
  Hs p = none ∧ S.Fr p = none ∧ (∃ o, H p = some o ∧ OCR Hs c o) ∧ (k = true → ¬ S.io p) ∧ (k = false → S.io p)
def SlotR (S : Fm) (Hs H : Hp) (o : Option (Option V)) : MV → Prop
  | .sh d => ∃ v, o = some (some v) ∧ Dq Hs v d
  | .ow k c => ∃ p, o = some (some (.ref p)) ∧ Own S Hs H k p c
structure Ok [Tables] (S : Fm) (Hs H : Hp) (σ : St) (env : Env) : Prop where
  len : σ.length = env.length
  sub : Same Hs H
  fr : ∀ b o, S.Fr b = some o → H b = some o ∧ (isTp o = false → Hs b = none)
  io : ∀ p, S.io p → (∃ o, H p = some o ∧ isTp o = false) ∧ Hs p = none ∧ S.Fr p = none
  slot : ∀ (i : Nat) (m : MV), env[i]? = some (some m) → SlotR S Hs H (σ[i]?) m
  inj : ∀ (i j : Nat) (k : Bool) (c : OC) (k' : Bool) (c' : OC) (p : Addr), env[i]? = some (some (.ow k c)) → env[j]? = some (some (.ow k' c')) → σ[i]? = some (some (.ref p)) → σ[j]? = some (some (.ref p)) → i = j
  tb : LamX.Tabs Tables.T H ∧ NoTb S.Fr ∧ NoTb Hs
def NotSlot (σ : St) (env : Env) (p : Addr) : Prop := ∀ (i : Nat) (k : Bool) (c : OC), env[i]? = some (some (.ow k c)) → σ[i]? ≠ some (some (.ref p))
def RVR (S : Fm) (Hs H : Hp) (σ : St) (env : Env) (v : V) : RV → Prop
  | .sh d => Dq Hs v d
  | .fr c => ∃ p, v = .ref p ∧ Own S Hs H true p c ∧ NotSlot σ env p
  | .br i => σ[i]? = some (some v)
  | .no => True
section
variable [Tables] {S : Fm} {Hs H Hs' H' : Hp} {σ : St} {env : Env} {p : Addr} {o : HO} {c : OC} {v : V} {d : D} {k : Bool} {i : Nat}
omit [Tables] in
theorem Own.mono (e : Same Hs Hs') (hp : Hs' p = none) (hH : ∀ o, H p = some o → H' p = some o) (h : Own S Hs H k p c) : Own S Hs' H' k p c := by
  obtain ⟨h1, h2, ⟨o, h3, h4⟩, h5, h6⟩ := h
  exact ⟨hp, h2, ⟨o, hH o h3, h4.mono e⟩, h5, h6⟩
/-- a new own object becomes shared -/
theorem Ok.adopt (ok : Ok S Hs H σ env) (hO : Own S Hs H true p c) (ho : H p = some o) (n : NotSlot σ env p) : Ok S (upd Hs p o) H σ env := by
  obtain ⟨h1, h2, ⟨o', h3, h4⟩, h5, h6⟩ := hO
  rw [ho] at h3; cases h3
  have sm : Same Hs (upd Hs p o) := same_upd h1
  refine ⟨ok.len, fun b x e => ?_, fun b x e => ⟨(ok.fr b x e).1, ?_⟩, fun q hq => ⟨(ok.io q hq).1, ?_, (ok.io q hq).2.2⟩, fun i m e => ?_, ok.inj, ok.tb.1, ok.tb.2.1, ok.tb.2.2.upd (notX_tb h4.nx)⟩
  · by_cases hb : b = p
    · subst hb; rw [upd_same] at e; cases e; exact ho
    · rw [upd_ne hb] at e; exact ok.sub _ _ e
  · intro z; rw [upd_ne (show b ≠ p from fun z => by subst z; rw [h2] at e; cases e)]; exact (ok.fr b x e).2 z
  · rw [upd_ne (show q ≠ p from fun z => by subst z; exact h5 rfl hq)]; exact (ok.io q hq).2.1
  · have z := ok.slot i m e
    cases m with
    | sh d => obtain ⟨v, e1, e2⟩ := z; exact ⟨v, e1, e2.mono sm⟩
    | ow k c =>
      obtain ⟨q, e1, e2⟩ := z
      refine ⟨q, e1, e2.mono sm ?_ fun _ z => z⟩
      rw [upd_ne (show q ≠ p from fun z => by subst z; exact n i k c e e1)]
      exact e2.1
omit [Tables] in
theorem OCR.dq (hc : c.isL = true) (h : OCR Hs c o) (hp : Hs p = none) : Dq (upd Hs p o) (.ref p) c.d := by
  cases c with
  | lst ds =>
    obtain ⟨xs, h1, h2, h3⟩ := h
    subst h1
    exact .lst upd_same h2 (h3.mono (same_upd hp))
  | dct _ _ => cases hc
/-- a slot forgotten -/
theorem Ok.drop (ok : Ok S Hs H σ env) (i : Nat) : Ok S Hs H σ (env.set i none) := by
  have key : ∀ (j : Nat) (m : MV), (env.set i none)[j]? = some (some m) → env[j]? = some (some m) ∧ j ≠ i := fun j m e => by
    by_cases hj : i = j
    · subst hj
      by_cases hl : i < env.length
      · rw [List.getElem?_set_self hl] at e; cases e
      · rw [List.getElem?_eq_none (by simpa using hl)] at e; cases e
    · rw [List.getElem?_set_ne hj] at e; exact ⟨e, Ne.symm hj⟩
  exact ⟨by rw [List.length_set]; exact ok.len, ok.sub, ok.fr, ok.io, fun j m e => ok.slot j m (key j m e).1, fun a b k c k' c' q h1 h2 => ok.inj a b k c k' c' q (key a _ h1).1 (key b _ h2).1, ok.tb⟩
theorem NotSlot.drop (ok : Ok S Hs H σ env) (he : env[i]? = some (some (.ow k c))) (hσ : σ[i]? = some (some (.ref p))) : NotSlot σ (env.set i none) p := fun j k' c' e z => by
  by_cases hj : i = j
  · subst hj
    by_cases hl : i < env.length
    · rw [List.getElem?_set_self hl] at e; cases e
    · rw [List.getElem?_eq_none (by simpa using hl)] at e; cases e
  · rw [List.getElem?_set_ne hj] at e
    exact hj (ok.inj i j k c k' c' p he e hσ z)
/-- a slot's data said anew -/
theorem Ok.tell (ok : Ok S Hs H σ env) (hσ : σ[i]? = some (some v)) (h : Dq Hs v d) : Ok S Hs H σ (env.set i (some (.sh d))) := by
  have hl : i < env.length := by rw [← ok.len]; exact (List.getElem?_eq_some_iff.mp hσ).1
  refine ⟨by rw [List.length_set]; exact ok.len, ok.sub, ok.fr, ok.io, fun j m e => ?_, fun a b k c k' c' q h1 h2 => ?_, ok.tb⟩
  · by_cases hj : i = j
    · subst hj; rw [List.getElem?_set_self hl] at e; cases e; exact ⟨v, hσ, h⟩
    · rw [List.getElem?_set_ne hj] at e; exact ok.slot j m e
  · have key : ∀ (j : Nat) (k : Bool) (c : OC), (env.set i (some (.sh d)))[j]? = some (some (.ow k c)) → env[j]? = some (some (.ow k c)) := fun j k c e => by
      by_cases hj : i = j
      · subst hj; rw [List.getElem?_set_self hl] at e; cases e
      · rw [List.getElem?_set_ne hj] at e; exact e
    exact ok.inj a b k c k' c' q (key _ _ _ h1) (key _ _ _ h2)
/-- a name is stored: shared data -/
theorem Ok.put (ok : Ok S Hs H σ env) (h : Dq Hs v d) : Ok S Hs H (σ.set i (some v)) (env.set i (some (.sh d))) := by
  by_cases hl : i < env.length
  · have hlσ : i < σ.length := by rw [ok.len]; exact hl
    have key : ∀ (j : Nat) (k : Bool) (c : OC), (env.set i (some (.sh d)))[j]? = some (some (.ow k c)) → env[j]? = some (some (.ow k c)) ∧ j ≠ i := fun j k c e => by
      by_cases hj : i = j
      · subst hj; rw [List.getElem?_set_self hl] at e; cases e
      · rw [List.getElem?_set_ne hj] at e; exact ⟨e, Ne.symm hj⟩
    refine ⟨by rw [List.length_set, List.length_set]; exact ok.len, ok.sub, ok.fr, ok.io, fun j m e => ?_, fun a b k c k' c' q h1 h2 e1 e2 => ?_, ok.tb⟩
    · by_cases hj : i = j
      · subst hj; rw [List.getElem?_set_self hl] at e; cases e; exact ⟨v, List.getElem?_set_self hlσ, h⟩
      · rw [List.getElem?_set_ne hj] at e ⊢; exact ok.slot j m e
    · obtain ⟨h1, n1⟩ := key _ _ _ h1
      obtain ⟨h2, n2⟩ := key _ _ _ h2
      rw [List.getElem?_set_ne (Ne.symm n1)] at e1
      rw [List.getElem?_set_ne (Ne.symm n2)] at e2
      exact ok.inj a b k c k' c' q h1 h2 e1 e2
  · have hl2 : σ.length ≤ i := by have := ok.len; omega
    rw [List.set_eq_of_length_le hl2, List.set_eq_of_length_le (show env.length ≤ i by omega)]
    exact ok
/-- a name is stored: an own object -/
theorem Ok.putOwn (ok : Ok S Hs H σ env) (h : Own S Hs H true p c) (n : NotSlot σ env p) : Ok S Hs H (σ.set i (some (.ref p))) (env.set i (some (.ow true c))) := by
  by_cases hl : i < env.length
  · have hlσ : i < σ.length := by rw [ok.len]; exact hl
    refine ⟨by rw [List.length_set, List.length_set]; exact ok.len, ok.sub, ok.fr, ok.io, fun j m e => ?_, fun a b k c k' c' q h1 h2 e1 e2 => ?_, ok.tb⟩
    · by_cases hj : i = j
      · subst hj; rw [List.getElem?_set_self hl] at e; cases e; exact ⟨p, List.getElem?_set_self hlσ, h⟩
      · rw [List.getElem?_set_ne hj] at e ⊢; exact ok.slot j m e
    · by_cases ha : i = a
      · by_cases hb : i = b
        · exact ha.symm.trans hb
        · subst ha
          rw [List.getElem?_set_ne hb] at h2 e2
          rw [List.getElem?_set_self hlσ] at e1
          cases e1
          exact absurd e2 (n b _ _ h2)
      · by_cases hb : i = b
        · subst hb
          rw [List.getElem?_set_ne ha] at h1 e1
          rw [List.getElem?_set_self hlσ] at e2
          cases e2
          exact absurd e1 (n a _ _ h1)
        · rw [List.getElem?_set_ne ha] at h1 e1
          rw [List.getElem?_set_ne hb] at h2 e2
          exact ok.inj a b k c k' c' q h1 h2 e1 e2
  · have hl2 : σ.length ≤ i := by have := ok.len; omega
    rw [List.set_eq_of_length_le hl2, List.set_eq_of_length_le (show env.length ≤ i by omega)]
    exact ok
omit [Tables] in
theorem isTp_tb {o : HO} (h : isTp o = false) : ∀ ps, o ≠ .tbl ps := fun ps e => by subst e; cases h
/-- what isn't known, or a table -/
def Bare (H : Hp) (p : Addr) : Prop := H p = none ∨ ∃ ps, H p = some (.tbl ps)
theorem Ok.freeB (ok : Ok S Hs H σ env) (hp : Bare H p) : Hs p = none ∧ S.Fr p = none ∧ ¬ S.io p ∧ NotSlot σ env p := by
  have no : ∀ o, H p = some o → ∃ ps, o = .tbl ps := fun o e => by
    rcases hp with z | ⟨ps, z⟩
    · rw [z] at e; cases e
    · rw [z] at e; cases e; exact ⟨ps, rfl⟩
  refine ⟨?_, ?_, fun z => ?_, fun i k c e z => ?_⟩
  · cases q : Hs p with
    | none => rfl
    | some o =>
      obtain ⟨ps, rfl⟩ := no o (ok.sub _ _ q)
      exact absurd q (ok.tb.2.2 p ps)
  · cases q : S.Fr p with
    | none => rfl
    | some o =>
      obtain ⟨ps, rfl⟩ := no o (ok.fr p o q).1
      exact absurd q (ok.tb.2.1 p ps)
  · obtain ⟨⟨o, e, ht⟩, _⟩ := ok.io p z
    obtain ⟨ps, rfl⟩ := no o e
    cases ht
  · obtain ⟨q, e1, e2⟩ := ok.slot i _ e
    rw [z] at e1; cases e1
    obtain ⟨o, ho, hc⟩ := e2.2.2.1
    obtain ⟨ps, rfl⟩ := no o ho
    exact absurd rfl (notX_tb hc.nx ps)
theorem Ok.free (ok : Ok S Hs H σ env) (hp : H p = none) : Hs p = none ∧ S.Fr p = none ∧ ¬ S.io p ∧ NotSlot σ env p := by
  refine ⟨ok.sub.free hp, ?_, fun z => (by obtain ⟨_, e, _⟩ := (ok.io p z).1; rw [hp] at e; cases e), fun i k c e z => ?_⟩
  · cases q : S.Fr p with
    | none => rfl
    | some o => rw [(ok.fr p o q).1] at hp; cases hp
  · obtain ⟨q, e1, e2⟩ := ok.slot i _ e
    rw [z] at e1; cases e1
    obtain ⟨o, ho, _⟩ := e2.2.2.1
    rw [hp] at ho; cases ho
/-- a new object, not shared -/
theorem Ok.alloc (ok : Ok S Hs H σ env) (hp : H p = none) : Ok S Hs (upd H p o) σ env := by
  obtain ⟨f1, f2, f3, f4⟩ := ok.free hp
  refine ⟨ok.len, same_upd2 ok.sub f1, fun b x e => ⟨?_, (ok.fr b x e).2⟩, fun q hq => ⟨?_, (ok.io q hq).2⟩, fun i m e => ?_, ok.inj, tabs_new ok.tb.1 hp, ok.tb.2⟩
  · rw [upd_ne (ne_of_none e f2)]; exact (ok.fr b x e).1
  · rw [upd_ne (show q ≠ p from fun z => by subst z; exact f3 hq)]; exact (ok.io q hq).1
  · have z := ok.slot i m e
    cases m with
    | sh d => exact z
    | ow k c =>
      obtain ⟨q, e1, e2⟩ := z
      refine ⟨q, e1, e2.mono (Same.refl _) e2.1 fun o ho => ?_⟩
      rw [upd_ne (show q ≠ p from fun z => by subst z; rw [hp] at ho; cases ho)]; exact ho
theorem Ok.newOwn (ok : Ok S Hs H σ env) (hp : H p = none) (h : OCR Hs c o) : Own S Hs (upd H p o) true p c :=
  let ⟨f1, f2, f3, _⟩ := ok.free hp
  ⟨f1, f2, ⟨o, upd_same, h⟩, fun _ => f3, fun z => nomatch z⟩
/-- a new shared object -/
theorem Ok.allocS (ok : Ok S Hs H σ env) (hp : H p = none) (hx : ∀ ps, o ≠ .tbl ps := by intro _ z; cases z) : Ok S (upd Hs p o) (upd H p o) σ env := by
  obtain ⟨f1, f2, f3, f4⟩ := ok.free hp
  have sm : Same Hs (upd Hs p o) := same_upd f1
  refine ⟨ok.len, fun b x e => ?_, fun b x e => ?_, fun q hq => ?_, fun i m e => ?_, ok.inj, tabs_new ok.tb.1 hp, ok.tb.2.1, ok.tb.2.2.upd hx⟩
  · by_cases hb : b = p
    · subst hb; rw [upd_same] at e ⊢; exact e
    · rw [upd_ne hb] at e ⊢; exact ok.sub _ _ e
  · have n : b ≠ p := ne_of_none e f2
    rw [upd_ne n, upd_ne n]; exact ok.fr b x e
  · have n : q ≠ p := fun z => by subst z; exact f3 hq
    rw [upd_ne n, upd_ne n]; exact ok.io q hq
  · have z := ok.slot i m e
    cases m with
    | sh d => obtain ⟨v, e1, e2⟩ := z; exact ⟨v, e1, e2.mono sm⟩
    | ow k c =>
      obtain ⟨q, e1, e2⟩ := z
      have n : q ≠ p := fun z => by
        subst z
        obtain ⟨o, ho, _⟩ := e2.2.2.1
        rw [hp] at ho; cases ho
      exact ⟨q, e1, e2.mono sm (by rw [upd_ne n]; exact e2.1) fun o ho => by rw [upd_ne n]; exact ho⟩
/-- a tuple that stands already is shared -/
theorem Ok.adoptT {vs : List V} (ok : Ok S Hs H σ env) (hp : H p = some (.tup vs)) (hs : Hs p = none) : Ok S (upd Hs p (.tup vs)) H σ env := by
  have sm : Same Hs (upd Hs p (.tup vs)) := same_upd hs
  refine ⟨ok.len, fun b x e => ?_, fun b x e => ⟨(ok.fr b x e).1, fun z => ?_⟩, fun q hq => ⟨(ok.io q hq).1, ?_, (ok.io q hq).2.2⟩, fun i m e => ?_, ok.inj, ok.tb.1, ok.tb.2.1, ok.tb.2.2.upd fun _ z => by cases z⟩
  · by_cases hb : b = p
    · subst hb; rw [upd_same] at e; cases e; exact hp
    · rw [upd_ne hb] at e; exact ok.sub _ _ e
  · have n : b ≠ p := fun w => by subst w; have := (ok.fr b x e).1; rw [hp] at this; cases this; cases z
    rw [upd_ne n]; exact (ok.fr b x e).2 z
  · have n : q ≠ p := fun w => by
      subst w
      obtain ⟨o, e, t⟩ := (ok.io q hq).1
      rw [hp] at e; cases e; cases t
    rw [upd_ne n]; exact (ok.io q hq).2.1
  · have z := ok.slot i m e
    cases m with
    | sh d => obtain ⟨v, e1, e2⟩ := z; exact ⟨v, e1, e2.mono sm⟩
    | ow k c =>
      obtain ⟨q, e1, e2⟩ := z
      have n : q ≠ p := fun w => by
        subst w
        obtain ⟨o, ho, hc⟩ := id e2.2.2.1
        rw [hp] at ho; cases ho
        have := hc.ntp; cases this
      exact ⟨q, e1, e2.mono sm (by rw [upd_ne n]; exact e2.1) fun o ho => ho⟩
/-- an own slot's object is changed -/
theorem Ok.write {c' : OC} {o' : HO} (ok : Ok S Hs H σ env) (he : env[i]? = some (some (.ow k c))) (hσ : σ[i]? = some (some (.ref p))) (h : OCR Hs c' o') : Ok S Hs (upd H p o') σ (env.set i (some (.ow k c'))) := by
  have hl : i < env.length := (List.getElem?_eq_some_iff.mp he).1
  obtain ⟨q, e1, e2⟩ := ok.slot i _ he
  rw [hσ] at e1; cases e1
  obtain ⟨h1, h2, ⟨o, h3, h4⟩, h5, h6⟩ := e2
  refine ⟨by rw [List.length_set]; exact ok.len, same_upd2 ok.sub h1, fun b x e => ⟨?_, (ok.fr b x e).2⟩, fun q hq => ⟨?_, (ok.io q hq).2⟩, fun j m e => ?_, fun a b k1 c1 k2 c2 q g1 g2 => ?_, tabs_upd ok.tb.1 (fun u e => by rw [h3] at e; cases e; exact h4.nx), ok.tb.2⟩
  · rw [upd_ne (ne_of_none e h2)]; exact (ok.fr b x e).1
  · by_cases hq' : q = p
    · subst hq'; rw [upd_same]; exact ⟨o', rfl, h.ntp⟩
    · rw [upd_ne hq']; exact (ok.io q hq).1
  · by_cases hj : i = j
    · subst hj
      rw [List.getElem?_set_self hl] at e; cases e
      exact ⟨p, hσ, h1, h2, ⟨o', upd_same, h⟩, h5, h6⟩
    · rw [List.getElem?_set_ne hj] at e
      have z := ok.slot j m e
      cases m with
      | sh d => exact z
      | ow k3 c3 =>
        obtain ⟨q, e1, e2⟩ := z
        refine ⟨q, e1, e2.mono (Same.refl _) e2.1 fun o ho => ?_⟩
        rw [upd_ne (show q ≠ p from fun z => by subst z; exact hj (ok.inj i j _ _ _ _ _ he e hσ e1))]
        exact ho
  · have key : ∀ (j : Nat) (k3 : Bool) (c3 : OC), (env.set i (some (.ow k c')))[j]? = some (some (.ow k3 c3)) → ∃ k4 c4, env[j]? = some (some (.ow k4 c4)) := fun j k3 c3 e => by
      by_cases hj : i = j
      · subst hj; exact ⟨_, _, he⟩
      · rw [List.getElem?_set_ne hj] at e; exact ⟨_, _, e⟩
    obtain ⟨_, _, g1⟩ := key _ _ _ g1
    obtain ⟨_, _, g2⟩ := key _ _ _ g2
    exact ok.inj a b _ _ _ _ q g1 g2
/-- a value is held: a new object becomes shared -/
theorem Ok.held {r : RV} (ok : Ok S Hs H σ env) (h : RVR S Hs H σ env v r) : ∃ Hs', Same Hs Hs' ∧ Ok S Hs' H σ env ∧ RVR S Hs' H σ env v (hold r) := by
  cases r with
  | sh d => exact ⟨Hs, Same.refl _, ok, h⟩
  | br i => exact ⟨Hs, Same.refl _, ok, h⟩
  | no => exact ⟨Hs, Same.refl _, ok, trivial⟩
  | fr c =>
    cases c with
    | dct t kvs => exact ⟨Hs, Same.refl _, ok, trivial⟩
    | lst ds =>
      obtain ⟨p, e, hO, n⟩ := h
      subst e
      obtain ⟨o, ho, hc⟩ := id hO.2.2.1
      exact ⟨upd Hs p o, same_upd hO.1, ok.adopt hO ho n, hc.dq rfl hO.1⟩
/-- a value is handed on -/
theorem Ok.fzd {r : RV} {x : D × Env} (ok : Ok S Hs H σ env) (h : RVR S Hs H σ env v r) (e : fz env r = .ok x) : ∃ Hs', Same Hs Hs' ∧ Ok S Hs' H σ x.2 ∧ Dq Hs' v x.1 := by
  cases r with
  | sh d => cases e; exact ⟨Hs, Same.refl _, ok, h⟩
  | no => cases e
  | fr c =>
    obtain ⟨p, e1, hO, n⟩ := h
    cases c with
    | dct _ _ => cases e
    | lst ds =>
      cases e
      subst e1
      obtain ⟨o, ho, hc⟩ := id hO.2.2.1
      exact ⟨upd Hs p o, same_upd hO.1, ok.adopt hO ho n, hc.dq rfl hO.1⟩
  | br i =>
    simp only [fz] at e
    split at e
    · rename_i d hd
      cases e
      obtain ⟨w, e1, e2⟩ := ok.slot i _ hd
      rw [show σ[i]? = some (some v) from h] at e1; cases e1
      exact ⟨Hs, Same.refl _, ok, e2⟩
    · rename_i ds hd
      cases e
      obtain ⟨p, e1, hO⟩ := ok.slot i _ hd
      rw [show σ[i]? = some (some v) from h] at e1; cases e1
      obtain ⟨o, ho, hc⟩ := id hO.2.2.1
      have ok1 := (ok.drop i).adopt hO ho (NotSlot.drop ok hd h)
      have ok2 := ok1.tell (i := i) h (hc.dq rfl hO.1)
      rw [List.set_set] at ok2
      exact ⟨upd Hs p o, same_upd hO.1, ok2, hc.dq rfl hO.1⟩
    · cases e
/-- an own object is locked: it becomes shared -/
theorem Ok.lockS {o : HO} (ok : Ok S Hs H σ env) (h1 : Hs p = none) (h2 : S.Fr p = none) (h3 : ¬ S.io p) (n : NotSlot σ env p) (hp : ∀ u, H p = some u → notX u = true) (hx : ∀ ps, o ≠ .tbl ps := by intro _ z; cases z) : Ok S (upd Hs p o) (upd H p o) σ env := by
  have sm : Same Hs (upd Hs p o) := same_upd h1
  refine ⟨ok.len, fun b x e => ?_, fun b x e => ?_, fun q hq => ?_, fun i m e => ?_, ok.inj, tabs_upd ok.tb.1 hp, ok.tb.2.1, ok.tb.2.2.upd hx⟩
  · by_cases hb : b = p
    · subst hb; rw [upd_same] at e ⊢; exact e
    · rw [upd_ne hb] at e ⊢; exact ok.sub _ _ e
  · have n : b ≠ p := ne_of_none e h2
    rw [upd_ne n, upd_ne n]; exact ok.fr b x e
  · have n : q ≠ p := fun z => by subst z; exact h3 hq
    rw [upd_ne n, upd_ne n]; exact ok.io q hq
  · have z := ok.slot i m e
    cases m with
    | sh d => obtain ⟨v, e1, e2⟩ := z; exact ⟨v, e1, e2.mono sm⟩
    | ow k c =>
      obtain ⟨q, e1, e2⟩ := z
      have n : q ≠ p := fun z => by subst z; exact n i k c e e1
      exact ⟨q, e1, e2.mono sm (by rw [upd_ne n]; exact e2.1) fun o ho => by rw [upd_ne n]; exact ho⟩
/-- the object of an own dict -/
def DcO (Hs : Hp) (t : Bool) (kvs : List (D × D)) (o : HO) : Prop := OCR Hs (.dct t kvs) o
omit [Tables] in
theorem DcO.dq {t : Bool} {kvs : List (D × D)} {od : Obj} (h : OCR Hs (.dct t kvs) o) (hp : Hs p = none) : Dq (upd Hs p (.frz od o)) (.ref p) (.dict (mkD t kvs)) := by
  cases t with
  | false => obtain ⟨ks, rfl, h1, h2⟩ := h; exact .dctK upd_same h1 (h2.mono (same_upd hp))
  | true => obtain ⟨ks, rfl, h1, h2⟩ := h; exact .dctT upd_same h1 (h2.mono (same_upd hp))
/-- a value is handed on, a dict, too: what must be locked for it -/
theorem Ok.fzdL {r : RV} {x : D × Env} (ok : Ok S Hs H σ env) (h : RVR S Hs H σ env v r) (e : fzL env r = .ok x) :
    (∃ Hs', Same Hs Hs' ∧ Ok S Hs' H σ x.2 ∧ Dq Hs' v x.1) ∨ ∃ p o, v = .ref p ∧ H p = some o ∧ Mut (some o) ∧ ∀ od, ∃ Hs', Same Hs Hs' ∧ Ok S Hs' (upd H p (.frz od o)) σ x.2 ∧ Dq Hs' v x.1 := by
  have mu : ∀ {t : Bool} {kvs : List (D × D)} {o : HO}, OCR Hs (.dct t kvs) o → Mut (some o) := fun {t kvs o} h => by
    cases t with
    | false => obtain ⟨ks, rfl, _⟩ := h; trivial
    | true => obtain ⟨ks, rfl, _⟩ := h; trivial
  unfold fzL at e
  split at e
  · cases e
    obtain ⟨p, e1, hO, n⟩ := h
    subst e1
    obtain ⟨o, ho, hc⟩ := id hO.2.2.1
    exact .inr ⟨p, o, rfl, ho, mu hc, fun od => ⟨upd Hs p (.frz od o), same_upd hO.1, ok.lockS hO.1 hO.2.1 (hO.2.2.2.1 rfl) n (fun u e => by rw [ho] at e; cases e; exact hc.nx), DcO.dq hc hO.1⟩⟩
  · rename_i i
    split at e
    · rename_i t kvs hd
      cases e
      obtain ⟨p, e1, hO⟩ := ok.slot i _ hd
      rw [show σ[i]? = some (some v) from h] at e1; cases e1
      obtain ⟨o, ho, hc⟩ := id hO.2.2.1
      refine .inr ⟨p, o, rfl, ho, mu hc, fun od => ?_⟩
      have ok1 := (ok.drop i).lockS (o := .frz od o) hO.1 hO.2.1 (hO.2.2.2.1 rfl) (NotSlot.drop ok hd h) (fun u e => by rw [ho] at e; cases e; exact hc.nx)
      have ok2 := ok1.tell (i := i) h (DcO.dq (od := od) hc hO.1)
      rw [List.set_set] at ok2
      exact ⟨upd Hs p (.frz od o), same_upd hO.1, ok2, DcO.dq hc hO.1⟩
    · exact .inl (ok.fzd h e)
  · exact .inl (ok.fzd h e)
/-- what a value reads as now -/
def TopR (Hs H : Hp) (v : V) (d : D) : Prop := Dq Hs v d ∨ ∃ p c o, v = .ref p ∧ H p = some o ∧ OCR Hs c o ∧ d = c.d
theorem Ok.rd {r : RV} (ok : Ok S Hs H σ env) (h : RVR S Hs H σ env v r) (e : rd env r = .ok d) : TopR Hs H v d := by
  cases r with
  | sh d => cases e; exact .inl h
  | no => cases e
  | fr c =>
    cases e
    obtain ⟨p, e, hO, n⟩ := h
    obtain ⟨o, ho, hc⟩ := hO.2.2.1
    exact .inr ⟨p, c, o, e, ho, hc, rfl⟩
  | br i =>
    simp only [PI.rd] at e
    split at e
    · rename_i m hm
      cases e
      have z := ok.slot i _ hm
      cases m with
      | sh d =>
        obtain ⟨w, e1, e2⟩ := z
        rw [show σ[i]? = some (some v) from h] at e1; cases e1
        exact .inl e2
      | ow k c =>
        obtain ⟨p, e1, hO⟩ := z
        rw [show σ[i]? = some (some v) from h] at e1; cases e1
        obtain ⟨o, ho, hc⟩ := hO.2.2.1
        exact .inr ⟨p, c, o, rfl, ho, hc, rfl⟩
    · cases e
omit [Tables] in
theorem RVR.later {r : RV} {env' : Env} (h : RVR S Hs H σ env v (hold r)) (e : Same Hs Hs') : RVR S Hs' H' σ env' v (hold r) := by
  cases r with
  | sh d => exact Dq.mono e h
  | fr c =>
    cases c with
    | lst ds => exact Dq.mono e h
    | dct t kvs => trivial
  | br i => exact h
  | no => trivial
omit [Tables] in
theorem TopR.int {i : Int} (h : TopR Hs H v (.int i)) : v = .int i := by
  rcases h with h | ⟨p, c, o, e, ho, hc, hd⟩
  · cases h; rfl
  · cases c <;> cases hd
omit [Tables] in
theorem TopR.bl {b : Bool} (h : TopR Hs H v (.bool b)) : v = .bl b := by
  rcases h with h | ⟨p, c, o, e, ho, hc, hd⟩
  · cases h; rfl
  · cases c <;> cases hd
omit [Tables] in
theorem TopR.str {b : Str} (h : TopR Hs H v (.str b)) : v = .str b := by
  rcases h with h | ⟨p, c, o, e, ho, hc, hd⟩
  · cases h; rfl
  · cases c <;> cases hd
omit [Tables] in
theorem TopR.non (h : TopR Hs H v .none) : v = .non := by
  rcases h with h | ⟨p, c, o, e, ho, hc, hd⟩
  · cases h; rfl
  · cases c <;> cases hd
omit [Tables] in
theorem TopR.list {ds : List D} (s : Same Hs H) (h : TopR Hs H v (.list ds)) : ∃ p xs, v = .ref p ∧ H p = some (.lst xs) ∧ xs.length ≤ sizeLine ∧ DqAll Hs xs ds := by
  rcases h with h | ⟨p, c, o, e, ho, hc, hd⟩
  · cases h with
    | lst h1 h2 h3 => exact ⟨_, _, rfl, s _ _ h1, h2, h3⟩
  · cases c with
    | lst es =>
      cases hd
      obtain ⟨xs, h1, h2, h3⟩ := hc
      subst h1
      exact ⟨p, xs, e, ho, h2, h3⟩
    | dct _ _ => cases hd
omit [Tables] in
theorem TopR.tuple {ds : List D} (h : TopR Hs H v (.tuple ds)) : ∃ p xs, v = .ref p ∧ Hs p = some (.tup xs) ∧ xs.length ≤ sizeLine ∧ DqAll Hs xs ds := by
  rcases h with h | ⟨p, c, o, e, ho, hc, hd⟩
  · cases h with
    | tup h1 h2 h3 => exact ⟨_, _, rfl, h1, h2, h3⟩
  · cases c <;> cases hd
omit [Tables] in
theorem TopR.dp {K : PySem.W.Frag} (s : Same Hs H) (hp : d.plain = true) (h : TopR Hs H v d) : Dp K H v d := by
  rcases h with h | ⟨p, c, o, e, ho, hc, hd⟩
  · exact (h.mono s).dp hp
  · cases c with
    | lst es =>
      cases hd
      obtain ⟨xs, h1, h2, h3⟩ := hc
      subst h1; subst e
      exact .lst (SqL.of ho) (DqAll.dp (by simpa only [OC.d, PyData.plain] using hp) (h3.mono s))
    | dct _ _ => cases hd; simp [OC.d, PyData.plain] at hp
omit [Tables] in
theorem TopR.mono {Hs' H' : Hp} (e : Same Hs Hs') (h : Dq Hs v d) : TopR Hs' H' v d := .inl (h.mono e)
end

/-! ### readings -/
abbrev XE := Str → Hp → Prop
def EC [Tables] (E : XE) (S : Fm) (Hs : Hp) (c : Str) : Prop := ∀ H', Same Hs H' → Same S.Fr H' → LamX.Tabs Tables.T H' → E c H'
def PV [Tables] (S : Fm) (Hs : Hp) (σ : St) (Q : VK) (x : RV × Env) : Prop := ∀ v Hs' H', Same Hs Hs' → Ok S Hs' H' σ x.2 → RVR S Hs' H' σ x.2 v x.1 → Q v H'
def PB [Tables] (S : Fm) (Hs : Hp) (σ : St) (Q : Bool → Hp → Prop) (x : Bool × Env) : Prop := ∀ Hs' H', Same Hs Hs' → Ok S Hs' H' σ x.2 → Q x.1 H'
def PAs [Tables] (S : Fm) (Hs : Hp) (σ : St) (Q : List V → Hp → Prop) (x : List D × Env) : Prop := ∀ vs Hs' H', Same Hs Hs' → Ok S Hs' H' σ x.2 → DqAll Hs' vs x.1 → Q vs H'
def PO [Tables] (S : Fm) (Hs : Hp) (De : Ends) (o : Out) : Prop := match o with
  | .nx env => ∀ σ Hs' H', Same Hs Hs' → Ok S Hs' H' σ env → De.nx σ H'
  | .bk env => ∀ σ Hs' H', Same Hs Hs' → Ok S Hs' H' σ env → De.bk σ H'
  | .ct env => ∀ σ Hs' H', Same Hs Hs' → Ok S Hs' H' σ env → De.ct σ H'
  | .rt r env => ∀ v σ Hs' H', Same Hs Hs' → Ok S Hs' H' σ env → RVR S Hs' H' σ env v r → De.rt v H'
def tI [Tables] (E : XE) (f : FE) : TE := fun σ H Q => ∃ S Hs env, Ok S Hs H σ env ∧ (f env).RD (PV S Hs σ Q) (EC E S Hs)
def bI [Tables] (E : XE) (f : FT) : TT := fun σ H Q => ∃ S Hs env, Ok S Hs H σ env ∧ (f env).RD (PB S Hs σ Q) (EC E S Hs)
def aI [Tables] (E : XE) (f : Env → R (List D × Env)) : TA := fun σ H Q => ∃ S Hs env, Ok S Hs H σ env ∧ (f env).RD (PAs S Hs σ Q) (EC E S Hs)
def sI [Tables] (E : XE) (f : FS) : TS := fun De σ H => ∃ S Hs env, Ok S Hs H σ env ∧ (f env).RD (PO S Hs De) (EC E S Hs)
abbrev GE [Tables] (X : Cx) (E : XE) (e : Expr) (f : FE) : Prop := PE X e (tI E f)
abbrev GT [Tables] (X : Cx) (E : XE) (e : Expr) (f : FT) : Prop := PT X e (bI E f)
abbrev GA [Tables] (X : Cx) (E : XE) (es : List Expr) (f : Env → R (List D × Env)) : Prop := PA X es (aI E f)
abbrev GS [Tables] (X : Cx) (E : XE) (st : Stmt) (f : FS) : Prop := PS X st (sI E f)
abbrev GSs [Tables] (X : Cx) (E : XE) (sts : List Stmt) (f : FS) : Prop := PSs X sts (sI E f)
theorem PE.imp {X : Cx} {e : Expr} {t t' : TE} (h : PE X e t) (i : ∀ σ H Q, t' σ H Q → t σ H Q) : PE X e t' := ⟨fun pins s σ H Q I q => h.run pins s σ H Q I (i σ H Q q)⟩
theorem PT.imp {X : Cx} {e : Expr} {t t' : TT} (h : PT X e t) (i : ∀ σ H Q, t' σ H Q → t σ H Q) : PT X e t' := ⟨fun pins s σ H Q I q => h.run pins s σ H Q I (i σ H Q q)⟩
theorem PW.imp {X : Cx} {e : Expr} {t t' : TT} (h : PW X e t) (i : ∀ σ H Q, t' σ H Q → t σ H Q) : PW X e t' := ⟨fun wh pins s σ H Q I q => h.run wh pins s σ H Q I (i σ H Q q)⟩
theorem PA.imp {X : Cx} {e : List Expr} {t t' : TA} (h : PA X e t) (i : ∀ σ H Q, t' σ H Q → t σ H Q) : PA X e t' := ⟨fun pos pins s σ H Q I q => h.run pos pins s σ H Q I (i σ H Q q)⟩
theorem PS.imp {X : Cx} {e : Stmt} {t t' : TS} (h : PS X e t) (i : ∀ De σ H, t' De σ H → t De σ H) : PS X e t' := ⟨fun pins s σ H De I q => h.run pins s σ H De I (i De σ H q)⟩
theorem PSs.imp {X : Cx} {e : List Stmt} {t t' : TS} (h : PSs X e t) (i : ∀ De σ H, t' De σ H → t De σ H) : PSs X e t' := ⟨fun pins s σ H De I q => h.run pins s σ H De I (i De σ H q)⟩
theorem PG.imp {X : Cx} {e : Expr} {t t' : TG} (h : PG X e t) (i : ∀ v σ H Q, t' v σ H Q → t v σ H Q) : PG X e t' := ⟨fun pins s σ H v u Q I r q => h.run pins s σ H v u Q I r (i v σ H Q q)⟩
theorem PI.imp {X : Cx} {tg e : Expr} {t t' : TI} (h : L2.PI X tg e t) (i : ∀ σ H R, t' σ H R → t σ H R) : L2.PI X tg e t' := ⟨fun pins s σ H R I q => h.run pins s σ H R I (i σ H R q)⟩
section
variable [Tables] {E : XE} {S : Fm} {Hs H Hs' : Hp} {σ : St} {env : Env}
theorem EC.mono {c : Str} (s : Same Hs Hs') (h : EC E S Hs c) : EC E S Hs' c := fun H' a b tt => h H' (s.trans a) b tt
/-- the first part of a chain -/
theorem bindE {β : Type} {f : FE} {k : RV × Env → R β} {P : β → Prop} (ok : Ok S Hs H σ env) (h : ((f env).bnd k).RD P (EC E S Hs)) :
    tI E f σ H fun v H1 => ∃ Hs1 x, Same Hs Hs1 ∧ Ok S Hs1 H1 σ x.2 ∧ RVR S Hs1 H1 σ x.2 v x.1 ∧ (k x).RD P (EC E S Hs1) := by
  rw [RD_bnd] at h
  exact ⟨S, Hs, env, ok, h.mono (fun x hx v Hs' H' s o r => ⟨Hs', x, s, o, r, hx.mono (fun _ z => z) fun _ z => z.mono s⟩) fun _ z => z⟩
theorem bindT {β : Type} {f : FT} {k : Bool × Env → R β} {P : β → Prop} (ok : Ok S Hs H σ env) (h : ((f env).bnd k).RD P (EC E S Hs)) :
    bI E f σ H fun b H1 => ∃ Hs1 e, Same Hs Hs1 ∧ Ok S Hs1 H1 σ e ∧ (k (b, e)).RD P (EC E S Hs1) := by
  rw [RD_bnd] at h
  exact ⟨S, Hs, env, ok, h.mono (fun x hx Hs' H' s o => ⟨Hs', x.2, s, o, hx.mono (fun _ z => z) fun _ z => z.mono s⟩) fun _ z => z⟩
theorem bindA {β : Type} {f : Env → R (List D × Env)} {k : List D × Env → R β} {P : β → Prop} (ok : Ok S Hs H σ env) (h : ((f env).bnd k).RD P (EC E S Hs)) :
    aI E f σ H fun vs H1 => ∃ Hs1 x, Same Hs Hs1 ∧ Ok S Hs1 H1 σ x.2 ∧ DqAll Hs1 vs x.1 ∧ (k x).RD P (EC E S Hs1) := by
  rw [RD_bnd] at h
  exact ⟨S, Hs, env, ok, h.mono (fun x hx v Hs' H' s o r => ⟨Hs', x, s, o, r, hx.mono (fun _ z => z) fun _ z => z.mono s⟩) fun _ z => z⟩
omit [Tables] in
theorem RD.inv {α β : Type} {r : R α} {k : α → R β} {P : β → Prop} {F : Str → Prop} (hx : ∀ c, r ≠ .exc c) (h : (r.bnd k).RD P F) : ∃ a, r = .ok a ∧ (k a).RD P F := by
  cases r with
  | ok a => exact ⟨a, rfl, h⟩
  | exc c => exact absurd rfl (hx c)
  | bad => exact h.elim
omit [Tables] in
theorem fz_nox (env : Env) (r : RV) : ∀ c, fz env r ≠ .exc c := by
  intro c h
  cases r with
  | sh d => cases h
  | no => cases h
  | fr c => cases c <;> cases h
  | br i =>
    simp only [fz] at h
    split at h <;> cases h
omit [Tables] in
theorem fzL_nox (env : Env) (r : RV) : ∀ c, fzL env r ≠ .exc c := by
  intro c h
  unfold fzL at h
  split at h
  · cases h
  · split at h
    · cases h
    · exact fz_nox _ _ _ h
  · exact fz_nox _ _ _ h
omit [Tables] in
theorem rd_nox (env : Env) (r : RV) : ∀ c, rd env r ≠ .exc c := by
  intro c h
  cases r with
  | sh d => cases h
  | fr c => cases h
  | no => cases h
  | br i =>
    simp only [PI.rd] at h
    split at h <;> cases h
theorem PV.from {Q : VK} {x : RV × Env} (s : Same Hs Hs') (h : PV S Hs σ Q x) : PV S Hs' σ Q x := fun v Hs1 H1 s1 o r => h v Hs1 H1 (s.trans s1) o r
end
end PI
set_option autoImplicit false
set_option Elab.async false
set_option linter.all false
set_option maxRecDepth 100000
set_option autoImplicit false
/-! Pi2: expressions, arguments, tests, calls. -/
namespace PI
open PySem PySem.Spec PyProof.Rows L2
open R (RD_bnd)
section
variable [Tables] {E : XE} {S : Fm} {Hs H Hs' H' : Hp} {σ : St} {env : Env}
theorem tI.mono {f : FE} {Q Q' : VK} (h : tI E f σ H Q) (i : ∀ v H, Q v H → Q' v H) : tI E f σ H Q' := by
  obtain ⟨S, Hs, env, ok, h⟩ := h
  exact ⟨S, Hs, env, ok, h.mono (fun x hx v Hs' H' s o r => i _ _ (hx v Hs' H' s o r)) fun _ z => z⟩
theorem bI.mono {f : FT} {Q Q' : Bool → Hp → Prop} (h : bI E f σ H Q) (i : ∀ v H, Q v H → Q' v H) : bI E f σ H Q' := by
  obtain ⟨S, Hs, env, ok, h⟩ := h
  exact ⟨S, Hs, env, ok, h.mono (fun x hx Hs' H' s o => i _ _ (hx Hs' H' s o)) fun _ z => z⟩
theorem aI.mono {f : Env → R (List D × Env)} {Q Q' : List V → Hp → Prop} (h : aI E f σ H Q) (i : ∀ v H, Q v H → Q' v H) : aI E f σ H Q' := by
  obtain ⟨S, Hs, env, ok, h⟩ := h
  exact ⟨S, Hs, env, ok, h.mono (fun x hx v Hs' H' s o r => i _ _ (hx v Hs' H' s o r)) fun _ z => z⟩
omit [Tables] in
theorem nox_nox {α : Type} (r : R α) : ∀ c, r.nox ≠ .exc c := by
  intro c h
  cases r <;> cases h
/-- a value, looked at in a chain -/
theorem bindH {β : Type} {f : FE} {k : RV × Env → R β} {P : β → Prop} (ok : Ok S Hs H σ env) (h : ((f env).bnd k).RD P (EC E S Hs)) :
    tI E f σ H fun v H1 => ∃ Hs1 x, Same Hs Hs1 ∧ Ok S Hs1 H1 σ x.2 ∧ RVR S Hs1 H1 σ x.2 v (hold x.1) ∧ (k x).RD P (EC E S Hs1) := by
  refine tI.mono (bindE ok h) fun v H1 ⟨Hs1, x, s, o, r, q⟩ => ?_
  obtain ⟨Hs2, s2, o2, r2⟩ := o.held r
  exact ⟨Hs2, x, s.trans s2, o2, r2, q.mono (fun _ z => z) fun _ z => z.mono s2⟩
/-- .. handed on -/
theorem bindF {β : Type} {f : FE} {k : D × Env → R β} {P : β → Prop} (ok : Ok S Hs H σ env) (h : ((f env).bnd fun x => (fz x.2 x.1).bnd k).RD P (EC E S Hs)) :
    tI E f σ H fun v H1 => ∃ Hs1 y, Same Hs Hs1 ∧ Ok S Hs1 H1 σ y.2 ∧ Dq Hs1 v y.1 ∧ (k y).RD P (EC E S Hs1) := by
  refine tI.mono (bindE ok h) fun v H1 ⟨Hs1, x, s, o, r, q⟩ => ?_
  obtain ⟨y, e, q⟩ := RD.inv (fz_nox _ _) q
  obtain ⟨Hs2, s2, o2, d2⟩ := o.fzd r e
  exact ⟨Hs2, y, s.trans s2, o2, d2, q.mono (fun _ z => z) fun _ z => z.mono s2⟩
/-! ### handed on, locked where it is a dict -/
def LK (t : TE) : TE := fun σ H Q => t σ H fun v H1 => Q v H1 ∨ ∃ d u, v = .ref d ∧ H1 d = some u ∧ Mut (some u) ∧ ∀ od, Q v (upd H1 d (.frz od u))
omit [Tables] in
theorem pe_lk {X : Cx} {e : Expr} {t : TE} (h : PE X e t) : PE X e (LK t) := by
  refine ⟨fun pins s σ H Q I q => thn (h.run pins s σ H _ I q) fun u s1 ⟨x, H1, I1, r1, hx⟩ => ?_⟩
  rcases hx with q | ⟨d, o, rfl, hd, mu, q⟩
  · exact ⟨x, H1, I1, r1, q⟩
  · obtain ⟨od, I2⟩ := I1.lock hd mu
    exact ⟨_, _, I2, r1, q od⟩
def PFz (S : Fm) (Hs : Hp) (σ : St) (Q : VK) (y : D × Env) : Prop := ∀ v Hs' H', Same Hs Hs' → Ok S Hs' H' σ y.2 → Dq Hs' v y.1 → Q v H'
def fI (E : XE) (f : FE) : TE := fun σ H Q => ∃ S Hs env, Ok S Hs H σ env ∧ ((f env).bnd fun x => fzL x.2 x.1).RD (PFz S Hs σ Q) (EC E S Hs)
theorem fI.mono {f : FE} {Q Q' : VK} (h : fI E f σ H Q) (i : ∀ v H, Q v H → Q' v H) : fI E f σ H Q' := by
  obtain ⟨S, Hs, env, ok, h⟩ := h
  exact ⟨S, Hs, env, ok, h.mono (fun x hx v Hs' H' s o r => i _ _ (hx v Hs' H' s o r)) fun _ z => z⟩
theorem bindL {β : Type} {f : FE} {k : D × Env → R β} {P : β → Prop} (ok : Ok S Hs H σ env) (h : ((f env).bnd fun x => (fzL x.2 x.1).bnd k).RD P (EC E S Hs)) :
    fI E f σ H fun v H1 => ∃ Hs1 y, Same Hs Hs1 ∧ Ok S Hs1 H1 σ y.2 ∧ Dq Hs1 v y.1 ∧ (k y).RD P (EC E S Hs1) := by
  have e : ((f env).bnd fun x => (fzL x.2 x.1).bnd k) = ((f env).bnd fun x => fzL x.2 x.1).bnd k := (R.bnd_assoc _ _ _).symm
  rw [e, RD_bnd] at h
  exact ⟨S, Hs, env, ok, h.mono (fun y hy v Hs' H' s o r => ⟨Hs', y, s, o, r, hy.mono (fun _ z => z) fun _ z => z.mono s⟩) fun _ z => z⟩
theorem ge_fz {X : Cx} {e : Expr} {f : FE} (h : GE X E e f) : PE X e (fI E f) := by
  refine PE.imp (pe_lk h) fun σ H Q ⟨S, Hs, env, ok, hh⟩ => ?_
  refine tI.mono (bindE ok hh) fun v H1 ⟨Hs1, x, s1, o1, r1, q⟩ => ?_
  cases e : fzL x.2 x.1 with
  | ok y =>
    rw [e] at q
    rcases o1.fzdL r1 e with ⟨Hs2, s2, o2, d2⟩ | ⟨p, o, rfl, hp, mu, hl⟩
    · exact .inl (q v Hs2 H1 (s1.trans s2) o2 d2)
    · refine .inr ⟨p, o, rfl, hp, mu, fun od => ?_⟩
      obtain ⟨Hs2, s2, o2, d2⟩ := hl od
      exact q _ Hs2 _ (s1.trans s2) o2 d2
  | exc c => exact absurd e (fzL_nox _ _ c)
  | bad => rw [e] at q; exact q.elim
/-- two values -/
theorem bind2 {β : Type} {fa fb : FE} {k : D → D → RV × Env → R β} {P : β → Prop} (ok : Ok S Hs H σ env)
    (h : ((fa env).bnd fun x => (fb x.2).bnd fun y => (rd y.2 (hold x.1)).bnd fun d1 => (rd y.2 (hold y.1)).bnd fun d2 => k d1 d2 y).RD P (EC E S Hs)) :
    tI E fa σ H fun v H1 => tI E fb σ H1 fun w H2 => ∃ Hs2 y d1 d2, Same Hs Hs2 ∧ Ok S Hs2 H2 σ y.2 ∧ TopR Hs2 H2 v d1 ∧ TopR Hs2 H2 w d2 ∧ RVR S Hs2 H2 σ y.2 w (hold y.1) ∧ (k d1 d2 y).RD P (EC E S Hs2) := by
  refine tI.mono (bindH ok h) fun v H1 ⟨Hs1, x, s1, o1, r1, q⟩ => ?_
  refine tI.mono (bindH o1 q) fun w H2 ⟨Hs2, y, s2, o2, r2, q⟩ => ?_
  obtain ⟨d1, e1, q⟩ := RD.inv (rd_nox _ _) q
  obtain ⟨d2, e2, q⟩ := RD.inv (rd_nox _ _) q
  exact ⟨Hs2, y, d1, d2, s1.trans s2, o2, o2.rd (r1.later s2) e1, o2.rd r2 e2, r2, q⟩
end
/-- an operation by its data -/
def rD [Tables] (g : D → D → R RV) : R2 := fun x y H Q => ∃ S Hs σ env d1 d2 r, Ok S Hs H σ env ∧ TopR Hs H x d1 ∧ TopR Hs H y d2 ∧ g d1 d2 = .ok r ∧ PV S Hs σ Q (r, env)
def rU1 [Tables] (g : D → R RV) : V → Hp → VK → Prop := fun x H Q => ∃ S Hs σ env d r, Ok S Hs H σ env ∧ TopR Hs H x d ∧ g d = .ok r ∧ PV S Hs σ Q (r, env)
inductive TopAll (Hs H : Hp) : List V → List D → Prop where
  | nil : TopAll Hs H [] []
  | cons {v : V} {vs : List V} {d : D} {ds : List D} : TopR Hs H v d → TopAll Hs H vs ds → TopAll Hs H (v :: vs) (d :: ds)
def rL [Tables] (g : List D → R RV) : List V → Hp → VK → Prop := fun xs H Q => ∃ S Hs σ env ds r, Ok S Hs H σ env ∧ TopAll Hs H xs ds ∧ g ds = .ok r ∧ PV S Hs σ Q (r, env)
theorem rD.of [Tables] {E : XE} {S : Fm} {Hs0 Hs H : Hp} {σ : St} {env : Env} {g : D → D → R RV} {x y : V} {d1 d2 : D} {Q : VK} (s : Same Hs0 Hs) (ok : Ok S Hs H σ env) (h1 : TopR Hs H x d1) (h2 : TopR Hs H y d2)
    (h : ((g d1 d2).nox.bnd fun r => .ok (r, env)).RD (PV S Hs0 σ Q) (EC E S Hs)) : rD g x y H Q := by
  obtain ⟨r, e, q⟩ := RD.inv (nox_nox _) h
  have e' : g d1 d2 = .ok r := by
    cases hg : g d1 d2 with
    | ok a => rw [hg] at e; exact e
    | exc c => rw [hg] at e; cases e
    | bad => rw [hg] at e; cases e
  exact ⟨S, Hs, σ, env, d1, d2, r, ok, h1, h2, e', q.from s⟩
theorem nox_ok_of {α : Type} {r : R α} {a : α} (e : r.nox = .ok a) : r = .ok a := by
  cases r with
  | ok b => exact e
  | exc c => cases e
  | bad => cases e
section
variable [Tables] {X : Cx} {E : XE} {a b c : Expr} {fa fb fc : FE} {pos : Pos} {ta tb : FT} {es : List Expr} {rest : List Expr}
theorem ge_name (i : Nat) {x : Str} {pos : Pos} (hN : X.N[i]? = some x := by rfl) (hv : Vis X.env.scope x := by first | exact Or.inl rfl | exact Or.inr (Or.inl rfl) | exact Or.inr (Or.inr rfl)) (hd : (x == ("__debug__" : Str)) = false := by decide)
    (hcd : (x == ("__classdict__" : Str)) = false := by decide) : GE X E (.Name x pos) (fName i) := by
  refine PE.imp (pv i hN hv hd hcd) fun σ H Q ⟨S, Hs, env, ok, h⟩ => ?_
  unfold fName at h
  split at h
  · rename_i d hd
    obtain ⟨v, e1, e2⟩ := ok.slot i _ hd
    exact ⟨v, e1, h v Hs H (Same.refl _) ok e2⟩
  · rename_i k c hd
    obtain ⟨p, e1, e2⟩ := ok.slot i _ hd
    exact ⟨_, e1, h _ Hs H (Same.refl _) ok e1⟩
  · exact h.elim
theorem ge_val {e : Expr} {v : V} {d : D} (h : PE X e (tC v)) (q : ∀ Hs, Dq Hs v d) : GE X E e (fC d) :=
  PE.imp h fun σ H Q ⟨S, Hs, env, ok, h⟩ => h v Hs H (Same.refl _) ok (q Hs)
theorem ge_int {i j pos} : GE X E (.Constant (.int i) j pos) (fC (.int i)) := ge_val pe_int fun _ => .int i
theorem ge_bl {b j pos} : GE X E (.Constant (.bool b) j pos) (fC (.bool b)) := ge_val pe_bl fun _ => .bl b
theorem ge_non {j pos} : GE X E (.Constant .none j pos) (fC .none) := ge_val pe_non fun _ => .non
theorem ge_str {x j pos} : GE X E (.Constant (.str x) j pos) (fC (.str x)) := ge_val pe_str fun _ => .str x
theorem ge_glob {x : Str} {v : V} {d : D} {u : Value} {pos : Pos} (hg : Gl X x) (hm : X.mg x = some u) (r : RelV v u) (q : ∀ Hs, Dq Hs v d) (hd : (x == ("__debug__" : Str)) = false := by decide) : GE X E (.Name x pos) (fC d) := ge_val (pe_glob hg hm r hd) q
theorem ge_globI {x : Str} {i : Int} {t : Tok} {pos : Pos} (hg : Gl X x) (hm : X.mg x = some (.int i t)) (hd : (x == ("__debug__" : Str)) = false := by decide) : GE X E (.Name x pos) (fC (.int i)) := ge_glob (v := .int i) hg hm ⟨t, rfl⟩ (fun _ => .int i) hd
theorem binI {g : D → D → R RV} {σ : St} {H : Hp} {Q : VK} (h : tI E (fBin g fa fb) σ H Q) : tOp (rD g) (tI E fa) (tI E fb) σ H Q := by
  obtain ⟨S, Hs, env, ok, h⟩ := h
  exact tI.mono (bind2 ok h) fun v H1 h => tI.mono h fun w H2 ⟨Hs2, y, d1, d2, s, o, t1, t2, _, q⟩ => rD.of s o t1 t2 q
theorem ge_op {op : Operator} {g : D → D → R RV} (ho : OpR X (binaryOp op) (rD g)) (ha : GE X E a fa) (hb : GE X E b fb) : GE X E (.BinOp a op b pos) (fBin g fa fb) := PE.imp (pe_op ho ha hb) fun _ _ _ => binI
theorem ge_cmp {op : CmpOp} {g : D → D → R RV} (ho : OpR X (compareOp op) (rD g)) (ha : GE X E a fa) (hb : GE X E b fb) (hm : behindInMarks op b = false := by first | exact nobehind _ (by decide) (by decide) | rfl) : GE X E (.Compare a [op] [b] pos) (fBin g fa fb) := PE.imp (pe_cmpR ho ha hb hm) fun _ _ _ => binI
theorem ge_ix {g : D → D → R RV} (ho : IxR X (rD g)) (ha : GE X E a fa) (hb : GE X E b fb) (hs : PlainIx b := by exact fun _ _ => rfl) : GE X E (.Subscript a b pos) (fBin g fa fb) := PE.imp (pe_ix ho ha hb hs) fun _ _ _ => binI
theorem ge_un {op : UnaryOp} {g : D → R RV} (ho : UnR X (unaryOp op) (rU1 g)) (ha : GE X E a fa) : GE X E (.UnaryOp op a pos) (fUn g fa) := by
  refine PE.imp (pe_un ho ha) fun σ H Q ⟨S, Hs, env, ok, h⟩ => ?_
  refine tI.mono (bindH ok h) fun v H1 ⟨Hs1, x, s, o, r, q⟩ => ?_
  obtain ⟨d, e, q⟩ := RD.inv (rd_nox _ _) q
  obtain ⟨r2, e2, q⟩ := RD.inv (nox_nox _) q
  exact ⟨S, Hs1, σ, x.2, d, r2, o, o.rd r e, nox_ok_of e2, q.from s⟩
/-! ### arguments -/
theorem ga_nil : GA X E [] (fArgs []) := PA.imp pa_nil fun σ H Q ⟨S, Hs, env, ok, h⟩ => h [] Hs H (Same.refl _) ok .nil
theorem ga_cons {e : Expr} {fe : FE} {fs : List FE} (he : GE X E e fe) (hr : GA X E es (fArgs fs)) (hs : starEach (e :: es) X.env = (false, eval e X.env) :: starEach es X.env := by rfl) : GA X E (e :: es) (fArgs (fe :: fs)) := by
  refine PA.imp (pa_cons (ge_fz he) hr hs) fun σ H Q ⟨S, Hs, env, ok, h⟩ => ?_
  refine fI.mono (bindL ok h) fun v H1 ⟨Hs1, y, s1, o1, d1, q⟩ => ?_
  refine aI.mono (bindA o1 q) fun vs H2 ⟨Hs2, z, s2, o2, d2, q⟩ => ?_
  exact q (v :: vs) Hs2 H2 (s1.trans s2) o2 (.cons (d1.mono s2) d2)
omit [Tables] in
theorem fArgs_len : ∀ (as : List FE) (env : Env) {P : List D × Env → Prop} {F : Str → Prop}, (fArgs as env).RD P F → (fArgs as env).RD (fun x => P x ∧ x.1.length = as.length) F
  | [], env, P, F, h => ⟨h, rfl⟩
  | a :: as, env, P, F, h => by
    unfold fArgs at h ⊢
    rw [RD_bnd] at h ⊢
    refine h.mono (fun x h => ?_) fun _ z => z
    rw [RD_bnd] at h ⊢
    refine h.mono (fun y h => ?_) fun _ z => z
    rw [RD_bnd] at h ⊢
    exact (fArgs_len as y.2 h).mono (fun z ⟨h1, h2⟩ => ⟨h1, by simp [h2]⟩) fun _ z => z
/-- arguments as they are now -/
def RVs (S : Fm) (Hs H : Hp) (σ : St) (env : Env) : List V → List RV → Prop
  | [], [] => True
  | v :: vs, r :: rs => (∃ r', r = hold r') ∧ RVR S Hs H σ env v r ∧ RVs S Hs H σ env vs rs
  | _, _ => False
def PHs (S : Fm) (Hs : Hp) (σ : St) (Q : List V → Hp → Prop) (x : List RV × Env) : Prop := ∀ vs Hs' H', Same Hs Hs' → Ok S Hs' H' σ x.2 → RVs S Hs' H' σ x.2 vs x.1 → Q vs H'
def hI (E : XE) (f : Env → R (List RV × Env)) : TA := fun σ H Q => ∃ S Hs env, Ok S Hs H σ env ∧ (f env).RD (PHs S Hs σ Q) (EC E S Hs)
abbrev GH (X : Cx) (E : XE) (es : List Expr) (f : Env → R (List RV × Env)) : Prop := PA X es (hI E f)
theorem hI.mono {f : Env → R (List RV × Env)} {σ : St} {H : Hp} {Q Q' : List V → Hp → Prop} (h : hI E f σ H Q) (i : ∀ v H, Q v H → Q' v H) : hI E f σ H Q' := by
  obtain ⟨S, Hs, env, ok, h⟩ := h
  exact ⟨S, Hs, env, ok, h.mono (fun x hx v Hs' H' s o r => i _ _ (hx v Hs' H' s o r)) fun _ z => z⟩
theorem bindHs {S : Fm} {Hs H : Hp} {σ : St} {env : Env} {β : Type} {f : Env → R (List RV × Env)} {k : List RV × Env → R β} {P : β → Prop} (ok : Ok S Hs H σ env) (h : ((f env).bnd k).RD P (EC E S Hs)) :
    hI E f σ H fun vs H1 => ∃ Hs1 x, Same Hs Hs1 ∧ Ok S Hs1 H1 σ x.2 ∧ RVs S Hs1 H1 σ x.2 vs x.1 ∧ (k x).RD P (EC E S Hs1) := by
  rw [RD_bnd] at h
  exact ⟨S, Hs, env, ok, h.mono (fun x hx v Hs' H' s o r => ⟨Hs', x, s, o, r, hx.mono (fun _ z => z) fun _ z => z.mono s⟩) fun _ z => z⟩
theorem gh_nil : GH X E [] (fHeld []) := PA.imp pa_nil fun σ H Q ⟨S, Hs, env, ok, h⟩ => h [] Hs H (Same.refl _) ok trivial
theorem gh_cons {e : Expr} {fe : FE} {fs : List FE} (he : GE X E e fe) (hr : GH X E es (fHeld fs)) (hs : starEach (e :: es) X.env = (false, eval e X.env) :: starEach es X.env := by rfl) : GH X E (e :: es) (fHeld (fe :: fs)) := by
  refine PA.imp (pa_cons he hr hs) fun σ H Q ⟨S, Hs, env, ok, h⟩ => ?_
  refine tI.mono (bindH ok h) fun v H1 ⟨Hs1, x, s1, o1, r1, q⟩ => ?_
  refine hI.mono (bindHs o1 q) fun vs H2 ⟨Hs2, z, s2, o2, r2, q⟩ => ?_
  exact q (v :: vs) Hs2 H2 (s1.trans s2) o2 ⟨⟨_, rfl⟩, r1.later s2, r2⟩
omit [Tables] in
theorem rdAll_nox (env : Env) : ∀ (rs : List RV) (c : Str), rdAll env rs ≠ .exc c
  | [], c, h => by cases h
  | r :: rs, c, h => by
    unfold rdAll at h
    cases e : rd env r with
    | ok d =>
      rw [e] at h
      cases e2 : rdAll env rs with
      | ok ds => simp only [R.bnd, e2] at h; cases h
      | exc c' => exact rdAll_nox env rs c' e2
      | bad => simp only [R.bnd, e2] at h; cases h
    | exc c' => exact rd_nox env r c' e
    | bad => rw [e] at h; cases h
theorem RVs.top {S : Fm} {Hs H : Hp} {σ : St} {env : Env} (ok : Ok S Hs H σ env) : ∀ {vs : List V} {rs : List RV} {ds : List D}, RVs S Hs H σ env vs rs → rdAll env rs = .ok ds → TopAll Hs H vs ds
  | [], [], ds, _, e => by cases e; exact .nil
  | [], _ :: _, _, h, _ => h.elim
  | _ :: _, [], _, h, _ => h.elim
  | v :: vs, r :: rs, ds, ⟨_, h1, h2⟩, e => by
    unfold rdAll at e
    cases e1 : rd env r with
    | ok d =>
      rw [e1] at e
      cases e2 : rdAll env rs with
      | ok ds' =>
        simp only [R.bnd, e2] at e
        cases e
        exact .cons (ok.rd h1 e1) (RVs.top ok h2 e2)
      | exc c' => simp only [R.bnd, e2] at e; cases e
      | bad => simp only [R.bnd, e2] at e; cases e
    | exc c' => rw [e1] at e; cases e
    | bad => rw [e1] at e; cases e
theorem biI {g : List D → R RV} {fs : List FE} {σ : St} {H : Hp} {Q : VK} (h : tI E (fBi g fs) σ H Q) : tCB (rL g) (hI E (fHeld fs)) σ H Q := by
  obtain ⟨S, Hs, env, ok, h⟩ := h
  refine hI.mono (bindHs ok h) fun vs H1 ⟨Hs1, x, s, o, r, q⟩ => ?_
  obtain ⟨ds, e, q⟩ := RD.inv (rdAll_nox _ _) q
  obtain ⟨r2, e2, q⟩ := RD.inv (nox_nox _) q
  exact ⟨S, Hs1, σ, x.2, ds, r2, o, r.top o e, nox_ok_of e2, q.from s⟩
theorem ge_bi {x : Str} {p : Pos} {id : String} {g : List D → R RV} {e : Expr} {fs : List FE} (hc : CallR X (.builtin id) (rL g)) (hg : Gl X x) (hm : X.mg x = none) (hv : bootBuiltins x = some (.builtin id)) (ha : GH X E (e :: es) (fHeld fs)) (hn : x ≠ "__name__" := by decide) (hdb : (x == ("__debug__" : Str)) = false := by decide)
    (he : starEach (e :: es) X.env = (false, eval e X.env) :: starEach es X.env := by rfl) (hpl : (backTo pos (starEach es X.env)).any (·.1) = false := by rfl) : GE X E (.Call (.Name x p) (e :: es) [] pos) (fBi g fs) :=
  PE.imp (pe_callB hc hg hm hv ha hn hdb he hpl) fun _ _ _ => biI
theorem ge_ty {x : Str} {p : Pos} {T : String} {g : List D → R RV} {e : Expr} {fs : List FE} (hc : CallR X (.type T) (rL g)) (hg : Gl X x) (hm : X.mg x = none) (hv : bootBuiltins x = some (.type T)) (ha : GH X E (e :: es) (fHeld fs)) (hn : x ≠ "__name__" := by decide) (hdb : (x == ("__debug__" : Str)) = false := by decide)
    (he : starEach (e :: es) X.env = (false, eval e X.env) :: starEach es X.env := by rfl) (hpl : (backTo pos (starEach es X.env)).any (·.1) = false := by rfl) : GE X E (.Call (.Name x p) (e :: es) [] pos) (fBi g fs) :=
  PE.imp (pe_callTy hc hg hm hv ha hn hdb he hpl) fun _ _ _ => biI
/-! ### displays -/
theorem ge_tup {x1 : Nat} {fs : List FE} (h : GA X E es (fArgs fs)) (hl : fs.length ≤ 1000 := by decide) : GE X E (.Tuple es x1 pos) (fTup fs) := by
  refine PE.imp (pe_tup h) fun σ H Q ⟨S, Hs, env, ok, h⟩ => ?_
  unfold fTup at h
  rw [RD_bnd] at h
  refine ⟨S, Hs, env, ok, (fArgs_len fs env h).mono (fun x ⟨hx, hxl⟩ vs Hs1 H1 s o d => ?_) fun _ z => z⟩
  have hv : vs.length ≤ sizeLine := by rw [d.length, hxl]; exact Nat.le_trans hl (by decide)
  refine ⟨hv, fun p hp => ?_⟩
  have f := (o.free hp).1
  exact hx (.ref p) (upd Hs1 p (.tup vs)) _ (same_upd2 s (s.free f)) (o.allocS hp) (.tup upd_same hv (d.mono (same_upd f)))
theorem ge_lst {fs : List FE} (h : GA X E es (fArgs fs)) (hl : fs.length ≤ 1000 := by decide) : GE X E (.List es pos) (fLst fs) := by
  refine PE.imp (pe_lst h) fun σ H Q ⟨S, Hs, env, ok, h⟩ => ?_
  unfold fLst at h
  rw [RD_bnd] at h
  refine ⟨S, Hs, env, ok, (fArgs_len fs env h).mono (fun x ⟨hx, hxl⟩ vs Hs1 H1 s o d => ?_) fun _ z => z⟩
  have hv : vs.length ≤ sizeLine := by rw [d.length, hxl]; exact Nat.le_trans hl (by decide)
  refine ⟨hv, fun p hp => ?_⟩
  exact hx (.ref p) Hs1 _ s (o.alloc hp) ⟨p, rfl, o.newOwn hp ⟨vs, rfl, hv, d⟩, (o.free hp).2.2.2⟩
/-! ### tests -/
theorem valI {σ : St} {H : Hp} {Q : Bool → Hp → Prop} (h : bI E (tVal fa) σ H Q) : tI E fa σ H fun x H1 => ∃ k, x = .bl k ∧ Q k H1 := by
  obtain ⟨S, Hs, env, ok, h⟩ := h
  refine tI.mono (bindE ok h) fun v H1 ⟨Hs1, x, s, o, r, q⟩ => ?_
  obtain ⟨r1, e1⟩ := x
  simp only at q
  split at q
  · rename_i r0 b
    cases (show Dq Hs1 v (.bool b) from r)
    exact ⟨b, rfl, q Hs1 H1 s o⟩
  · exact q.elim
theorem gt_cmp {op : CmpOp} {g : D → D → R RV} (ho : OpR X (compareOp op) (rD g)) (ha : GE X E a fa) (hb : GE X E b fb) (hm : behindInMarks op b = false := by first | exact nobehind _ (by decide) (by decide) | rfl) : GT X E (.Compare a [op] [b] pos) (tVal (fBin g fa fb)) :=
  PT.imp (pt_cmpR ho ha hb hm) fun σ H Q h => binI (valI h)
theorem gt_val {e : Expr} {fe : FE} (h : GE X E e fe) (he : ∀ whole, isTrue e X.env whole = (do let v ← whole; standAt e.pos; holding [v] (truthy v)) := by intro _; rfl) : GT X E e (tVal fe) :=
  PT.imp (pt_val h he) fun σ H Q h => valI h
theorem gt_not {e : Expr} {t : FT} (h : GT X E e t) : GT X E (.UnaryOp .Not e pos) (tNot t) := by
  refine PT.imp (pt_not h) fun σ H Q ⟨S, Hs, env, ok, h⟩ => ?_
  exact bI.mono (bindT ok h) fun b H1 ⟨Hs1, e, s, o, q⟩ => q Hs1 H1 s o
abbrev GW (X : Cx) (E : XE) (e : Expr) (f : FT) : Prop := PW X e (bI E f)
theorem gw_and1 (h : GT X E a ta) : GW X E (.BoolOp .And [a] pos) ta := pw_and1 h
theorem gw_or1 (h : GT X E a ta) : GW X E (.BoolOp .Or [a] pos) ta := pw_or1 h
theorem gw_and (ha : GT X E a ta) (hb : GW X E (.BoolOp .And (b :: rest) pos) tb) : GW X E (.BoolOp .And (a :: b :: rest) pos) (PI.tAnd ta tb) := by
  refine PW.imp (pw_and ha hb) fun σ H Q ⟨S, Hs, env, ok, h⟩ => ?_
  refine bI.mono (bindT ok h) fun c H1 ⟨Hs1, e, s, o, q⟩ => ?_
  cases c with
  | true => exact ⟨S, Hs1, e, o, q.mono (fun x h Hs2 H2 s2 o2 => h Hs2 H2 (s.trans s2) o2) fun _ z => z⟩
  | false => exact q Hs1 H1 s o
theorem gw_or (ha : GT X E a ta) (hb : GW X E (.BoolOp .Or (b :: rest) pos) tb) : GW X E (.BoolOp .Or (a :: b :: rest) pos) (PI.tOr ta tb) := by
  refine PW.imp (pw_or ha hb) fun σ H Q ⟨S, Hs, env, ok, h⟩ => ?_
  refine bI.mono (bindT ok h) fun c H1 ⟨Hs1, e, s, o, q⟩ => ?_
  cases c with
  | false => exact ⟨S, Hs1, e, o, q.mono (fun x h Hs2 H2 s2 o2 => h Hs2 H2 (s.trans s2) o2) fun _ z => z⟩
  | true => exact q Hs1 H1 s o
theorem gt_w {e : Expr} {t : FT} (h : GW X E e t) : GT X E e t := h.pt
/-! ### values by tests -/
theorem ge_if (hc : GT X E c ta) (ha : GE X E a fa) (hb : GE X E b fb) : GE X E (.IfExp c a b pos) (fIf ta fa fb) := by
  refine PE.imp (pe_ifExp hc ha hb) fun σ H Q ⟨S, Hs, env, ok, h⟩ => ?_
  refine bI.mono (bindT ok h) fun c H1 ⟨Hs1, e, s, o, q⟩ => ?_
  cases c with
  | true => exact ⟨S, Hs1, e, o, q.mono (fun x h => h.from s) fun _ z => z⟩
  | false => exact ⟨S, Hs1, e, o, q.mono (fun x h => h.from s) fun _ z => z⟩
theorem ge_one {op} (h : GE X E a fa) : GE X E (.BoolOp op [a] pos) fa := pe_one h
theorem ge_and (ha : GE X E a fa) (hb : GE X E (.BoolOp .And (b :: rest) pos) fb) : GE X E (.BoolOp .And (a :: b :: rest) pos) (fAnd fa fb) := by
  refine PE.imp (pe_and ha hb) fun σ H Q ⟨S, Hs, env, ok, h⟩ => ?_
  refine tI.mono (bindE ok h) fun v H1 ⟨Hs1, x, s, o, r, q⟩ => ?_
  obtain ⟨r1, e1⟩ := x
  simp only at q
  split at q
  · rename_i r0 k
    cases (show Dq Hs1 v (.bool k) from r)
    refine ⟨k, rfl, ?_⟩
    cases k with
    | true => exact ⟨S, Hs1, e1, o, q.mono (fun x h => h.from s) fun _ z => z⟩
    | false => exact q _ Hs1 H1 s o (.bl false)
  · exact q.elim
theorem ge_or (ha : GE X E a fa) (hb : GE X E (.BoolOp .Or (b :: rest) pos) fb) : GE X E (.BoolOp .Or (a :: b :: rest) pos) (fOr fa fb) := by
  refine PE.imp (pe_or ha hb) fun σ H Q ⟨S, Hs, env, ok, h⟩ => ?_
  refine tI.mono (bindE ok h) fun v H1 ⟨Hs1, x, s, o, r, q⟩ => ?_
  obtain ⟨r1, e1⟩ := x
  simp only at q
  split at q
  · rename_i r0 k
    cases (show Dq Hs1 v (.bool k) from r)
    refine ⟨k, rfl, ?_⟩
    cases k with
    | false => exact ⟨S, Hs1, e1, o, q.mono (fun x h => h.from s) fun _ z => z⟩
    | true => exact q _ Hs1 H1 s o (.bl true)
  · exact q.elim
theorem ge_not (ha : GE X E a fa) : GE X E (.UnaryOp .Not a pos) (fNot fa) := by
  refine PE.imp (pe_not ha) fun σ H Q ⟨S, Hs, env, ok, h⟩ => ?_
  refine tI.mono (bindE ok h) fun v H1 ⟨Hs1, x, s, o, r, q⟩ => ?_
  obtain ⟨r1, e1⟩ := x
  simp only at q
  split at q
  · rename_i r0 k
    cases (show Dq Hs1 v (.bool k) from r)
    exact ⟨k, rfl, q _ Hs1 H1 s o (.bl (!k))⟩
  · exact q.elim
theorem chainI {g g' : D → D → R RV} {σ : St} {H : Hp} {Q : VK} (h : tI E (fChain g g' fa fb fc) σ H Q) : tChain (rD g) (rD g') (tI E fa) (tI E fb) (tI E fc) σ H Q := by
  obtain ⟨S, Hs, env, ok, h⟩ := h
  refine tI.mono (bind2 ok h) fun v H1 h => tI.mono h fun w H2 ⟨Hs2, y, d1, d2, s, o, t1, t2, rw2, q⟩ => ?_
  obtain ⟨r, e, q⟩ := RD.inv (nox_nox _) q
  refine ⟨S, Hs2, σ, y.2, d1, d2, r, o, t1, t2, nox_ok_of e, fun z Hs3 H3 s3 o3 rz => ?_⟩
  have rw3 := RVR.later (H' := H3) (env' := y.2) rw2 s3
  cases r with
  | sh d =>
    cases d with
    | bool k =>
      cases (show Dq Hs3 z (.bool k) from rz)
      refine ⟨k, rfl, ?_⟩
      cases k with
      | true =>
        simp only [if_true] at q ⊢
        have q' := q.mono (fun _ z => z) fun _ z => z.mono s3
        refine tI.mono (bindH o3 q') fun u H4 ⟨Hs4, z, s4, o4, r4, q⟩ => ?_
        obtain ⟨e2, h2, q⟩ := RD.inv (rd_nox _ _) q
        obtain ⟨e3, h3, q⟩ := RD.inv (rd_nox _ _) q
        exact rD.of ((s.trans s3).trans s4) o4 (o4.rd (rw3.later s4) h2) (o4.rd r4 h3) q
      | false =>
        simp only [Bool.false_eq_true, if_false] at q ⊢
        exact q _ Hs3 H3 (s.trans s3) o3 (.bl false)
    | _ => exact q.elim
  | _ => exact q.elim
theorem ge_chain {op op' : CmpOp} {g g' : D → D → R RV} (ho : OpR X (compareOp op) (rD g)) (ho' : OpR X (compareOp op') (rD g')) (ha : GE X E a fa) (hb : GE X E b fb) (hc : GE X E c fc)
    (hm : lastMarks [op, op'] [b, c] = false := by with_unfolding_all rfl) : GE X E (.Compare a [op, op'] [b, c] pos) (fChain g g' fa fb fc) := PE.imp (pe_chain ho ho' ha hb hc hm) fun _ _ _ => chainI
theorem gt_chain {op op' : CmpOp} {g g' : D → D → R RV} (ho : OpR X (compareOp op) (rD g)) (ho' : OpR X (compareOp op') (rD g')) (ha : GE X E a fa) (hb : GE X E b fb) (hc : GE X E c fc)
    (hm : lastMarks [op, op'] [b, c] = false := by with_unfolding_all rfl) : GT X E (.Compare a [op, op'] [b, c] pos) (tVal (fChain g g' fa fb fc)) := PT.imp (pt_chain ho ho' ha hb hc hm) fun σ H Q h => chainI (valI h)
end
end PI
set_option autoImplicit false
set_option Elab.async false
set_option linter.all false
set_option maxRecDepth 100000
set_option autoImplicit false
/-! Pi3: targets, what is walked, comprehensions, statements. -/
namespace PI
open PySem PySem.Spec PyProof.Rows L2
open R (RD_bnd)
section
variable [Tables] {S : Fm} {Hs H Hs' H' : Hp} {σ σ' : St} {env : Env} {p q : Addr} {o o' : HO} {c : OC} {v : V} {d : D} {k : Bool} {i : Nat}
omit [Tables] in
theorem bnd_ok_inv {α β : Type} {r : R α} {f : α → R β} {b : β} (h : r.bnd f = .ok b) : ∃ a, r = .ok a ∧ f a = .ok b := by
  cases r with
  | ok a => exact ⟨a, rfl, h⟩
  | exc c => cases h
  | bad => cases h
/-- an object that must stay for a while -/
def Fm.bar (S : Fm) (p : Addr) (o : HO) : Fm := ⟨upd S.Fr p o, S.io⟩
theorem Ok.bar (ok : Ok S Hs H σ env) (ho : H p = some o) (hp : Hs p = none) (hF : S.Fr p = none) (hio : ¬ S.io p) (n : NotSlot σ env p) (hx : ∀ ps, o ≠ .tbl ps := by intro _ z; cases z) : Ok (S.bar p o) Hs H σ env := by
  refine ⟨ok.len, ok.sub, fun b x e => ?_, fun q hq => ?_, fun i m e => ?_, ok.inj, ok.tb.1, ok.tb.2.1.upd hx, ok.tb.2.2⟩
  · by_cases hb : b = p
    · subst hb
      rw [show (S.bar b o).Fr b = some o from upd_same] at e; cases e
      exact ⟨ho, fun _ => hp⟩
    · rw [show (S.bar p o).Fr b = S.Fr b from upd_ne hb] at e; exact ok.fr b x e
  · have hq' : q ≠ p := fun z => by subst z; exact hio hq
    exact ⟨(ok.io q hq).1, (ok.io q hq).2.1, by rw [show (S.bar p o).Fr q = S.Fr q from upd_ne hq']; exact (ok.io q hq).2.2⟩
  · have z := ok.slot i m e
    cases m with
    | sh d => exact z
    | ow k c =>
      obtain ⟨q, e1, h1, h2, h3, h4, h5⟩ := z
      refine ⟨q, e1, h1, ?_, h3, h4, h5⟩
      rw [show (S.bar p o).Fr q = S.Fr q from upd_ne fun z => by subst z; exact n i k c e e1]
      exact h2
omit [Tables] in
theorem Own.unbar (hF : S.Fr p = none) (h : Own (S.bar p o) Hs H k q c) : Own S Hs H k q c ∧ q ≠ p := by
  obtain ⟨h1, h2, h3, h4, h5⟩ := h
  have hq : q ≠ p := fun z => by
    subst z
    rw [show (S.bar q o).Fr q = some o from upd_same] at h2; cases h2
  exact ⟨⟨h1, by rw [← show (S.bar p o).Fr q = S.Fr q from upd_ne hq]; exact h2, h3, h4, h5⟩, hq⟩
theorem Ok.unbar (hF : S.Fr p = none) (ok : Ok (S.bar p o) Hs H σ env) (ht : isTp o = false := by rfl) : Ok S Hs H σ env ∧ H p = some o ∧ Hs p = none ∧ ¬ S.io p ∧ NotSlot σ env p := by
  have hFp : (S.bar p o).Fr p = some o := upd_same
  refine ⟨⟨ok.len, ok.sub, fun b x e => ok.fr b x ?_, fun q hq => ?_, fun i m e => ?_, ok.inj, ok.tb.1, fun b ps e => ok.tb.2.1 b ps (by rw [show (S.bar p o).Fr b = S.Fr b from upd_ne (ne_of_none e hF)]; exact e), ok.tb.2.2⟩, (ok.fr p o hFp).1, (ok.fr p o hFp).2 ht, fun z => ?_, fun i k c e z => ?_⟩
  · rw [show (S.bar p o).Fr b = S.Fr b from upd_ne (ne_of_none e hF)]; exact e
  · obtain ⟨h1, h2, h3⟩ := ok.io q hq
    refine ⟨h1, h2, ?_⟩
    by_cases z : q = p
    · rw [z]; exact hF
    · rw [show (S.bar p o).Fr q = S.Fr q from upd_ne z] at h3; exact h3
  · have z := ok.slot i m e
    cases m with
    | sh d => exact z
    | ow k c =>
      obtain ⟨q, e1, h⟩ := z
      exact ⟨q, e1, (h.unbar hF).1⟩
  · have := (ok.io p z).2.2
    rw [hFp] at this; cases this
  · obtain ⟨q, e1, h⟩ := ok.slot i _ e
    rw [z] at e1; cases e1
    exact (h.unbar hF).2 rfl
omit [Tables] in
theorem Same.bar (s : Same (S.bar p o).Fr H') (hF : S.Fr p = none) : Same S.Fr H' := fun b x e => s b x (by rw [show (S.bar p o).Fr b = S.Fr b from upd_ne (ne_of_none e hF)]; exact e)
/-- the object that stays is changed by its keeper -/
theorem Ok.rebar (hF : S.Fr p = none) (ok : Ok (S.bar p o) Hs H σ env) (ht : isTp o = false := by rfl) (hx : notX o = true := by rfl) (hx' : ∀ ps, o' ≠ .tbl ps := by intro _ z; cases z) : Ok (S.bar p o') Hs (upd H p o') σ env := by
  obtain ⟨ok1, hp, hs, hio, n⟩ := ok.unbar hF ht
  refine Ok.bar (p := p) (o := o') ⟨ok1.len, same_upd2 ok1.sub hs, fun b x e => ⟨?_, (ok1.fr b x e).2⟩, fun q hq => ⟨?_, (ok1.io q hq).2⟩, fun i m e => ?_, ok1.inj, tabs_upd ok1.tb.1 (fun u e => by rw [hp] at e; cases e; exact hx), ok1.tb.2⟩ upd_same hs hF hio n hx'
  · rw [upd_ne (ne_of_none e hF)]; exact (ok1.fr b x e).1
  · by_cases z : q = p
    · subst z; exact absurd hq hio
    · rw [upd_ne z]; exact (ok1.io q hq).1
  · have z := ok1.slot i m e
    cases m with
    | sh d => exact z
    | ow k c =>
      obtain ⟨q, e1, h⟩ := z
      refine ⟨q, e1, h.mono (Same.refl _) h.1 fun x hx => ?_⟩
      rw [upd_ne (show q ≠ p from fun z => by subst z; exact n i k c e e1)]; exact hx
omit [Tables] in
theorem NotSlot.put (n : NotSlot σ env q) : NotSlot (σ.set i (some v)) (env.set i (some (.sh d))) q := fun j k c e z => by
  by_cases hj : i = j
  · subst hj
    by_cases hl : i < env.length
    · rw [List.getElem?_set_self hl] at e; cases e
    · rw [List.getElem?_eq_none (by simpa using hl)] at e; cases e
  · rw [List.getElem?_set_ne hj] at e z; exact n j k c e z
omit [Tables] in
theorem NotSlot.putOwn (n : NotSlot σ env q) (hq : q ≠ p) : NotSlot (σ.set i (some (.ref p))) (env.set i (some (.ow k c))) q := fun j k c e z => by
  by_cases hj : i = j
  · subst hj
    by_cases hl : i < σ.length
    · rw [List.getElem?_set_self hl] at z; cases z; exact hq rfl
    · rw [List.getElem?_eq_none (by simpa using hl)] at z; cases z
  · rw [List.getElem?_set_ne hj] at e z; exact n j k c e z
theorem Ok.clear (ok : Ok S Hs H σ env) (i : Nat) : Ok S Hs H (σ.set i none) (env.set i none) := by
  have key : ∀ (j : Nat) (m : MV), (env.set i none)[j]? = some (some m) → env[j]? = some (some m) ∧ i ≠ j := fun j m e => by
    by_cases hj : i = j
    · subst hj
      by_cases hl : i < env.length
      · rw [List.getElem?_set_self hl] at e; cases e
      · rw [List.getElem?_eq_none (by simpa using hl)] at e; cases e
    · rw [List.getElem?_set_ne hj] at e; exact ⟨e, hj⟩
  refine ⟨by rw [List.length_set, List.length_set]; exact ok.len, ok.sub, ok.fr, ok.io, fun j m e => ?_, fun a b k c k' c' q h1 h2 e1 e2 => ?_, ok.tb⟩
  · obtain ⟨h1, h2⟩ := key j m e
    rw [List.getElem?_set_ne h2]; exact ok.slot j m h1
  · obtain ⟨h1, n1⟩ := key _ _ h1
    obtain ⟨h2, n2⟩ := key _ _ h2
    rw [List.getElem?_set_ne n1] at e1
    rw [List.getElem?_set_ne n2] at e2
    exact ok.inj a b k c k' c' q h1 h2 e1 e2
theorem Ok.wiped (ok : Ok S Hs H σ env) : ∀ vs : List Nat, Ok S Hs H (wipe σ vs) (wipeE env vs)
  | [] => ok
  | v :: vs => (Ok.wiped ok vs).clear v
omit [Tables] in
theorem wipe_get (σ : St) (j : Nat) : ∀ (vs : List Nat), j < σ.length → (wipe σ vs)[j]? = if j ∈ vs then some none else σ[j]?
  | [], _ => by simp [wipe]
  | v :: vs, h => by
    have hl : (wipe σ vs).length = σ.length := wipe_length σ vs
    unfold wipe
    by_cases hj : v = j
    · subst hj
      rw [List.getElem?_set_self (by rw [hl]; exact h)]
      simp
    · rw [List.getElem?_set_ne hj, wipe_get σ j vs h]
      have : j ≠ v := fun z => hj z.symm
      simp [this]
omit [Tables] in
theorem wipe_eq {vs : List Nat} (hl : σ'.length = σ.length) (h : ∀ j, j ∉ vs → σ'[j]? = σ[j]?) : wipe σ' vs = wipe σ vs := by
  apply List.ext_getElem?
  intro j
  by_cases hj : j < σ.length
  · rw [wipe_get σ' j vs (by omega), wipe_get σ j vs hj]
    by_cases hm : j ∈ vs
    · rw [if_pos hm, if_pos hm]
    · rw [if_neg hm, if_neg hm, h j hm]
  · rw [List.getElem?_eq_none (by rw [wipe_length]; omega), List.getElem?_eq_none (by rw [wipe_length]; omega)]
omit [Tables] in
theorem wipe_wipe (vs : List Nat) : wipe (wipe σ vs) vs = wipe σ vs := wipe_eq (wipe_length σ vs) fun j hj => by
  by_cases hl : j < σ.length
  · rw [wipe_get σ j vs hl, if_neg hj]
  · rw [List.getElem?_eq_none (by rw [wipe_length]; omega), List.getElem?_eq_none (by omega)]
omit [Tables] in
theorem backE_get (old : Env) (j : Nat) : ∀ (vs : List Nat) (env : Env), j < env.length → (backE old env vs)[j]? = if j ∈ vs then some (shOnly old[j]?) else env[j]?
  | [], env, _ => by simp [backE]
  | v :: vs, env, h => by
    have hl : ∀ vs : List Nat, (backE old env vs).length = env.length := fun vs => by
      induction vs with
      | nil => rfl
      | cons a r ih => unfold backE; rw [List.length_set, ih]
    unfold backE
    by_cases hj : v = j
    · subst hj
      rw [List.getElem?_set_self (by rw [hl]; exact h)]
      simp
    · rw [List.getElem?_set_ne hj, backE_get old j vs env h]
      have : j ≠ v := fun z => hj z.symm
      simp [this]
omit [Tables] in
theorem backE_length (old env : Env) : ∀ vs : List Nat, (backE old env vs).length = env.length
  | [] => rfl
  | v :: vs => by unfold backE; rw [List.length_set, backE_length old env vs]
/-- behind a block: the own names as they were -/
theorem Ok.backed {Hs0 H0 : Hp} {old : Env} {vs : List Nat} (ok0 : Ok S Hs0 H0 σ old) (s : Same Hs0 Hs) (ok : Ok S Hs H (wipe σ vs) env) : Ok S Hs H σ (backE old env vs) ∧ ∀ p, NotSlot (wipe σ vs) env p → NotSlot σ (backE old env vs) p := by
  have hlen : σ.length = env.length := by rw [← ok.len, wipe_length]
  have key : ∀ (j : Nat) (m : MV), (backE old env vs)[j]? = some (some m) → (j ∈ vs ∧ ∃ d, m = .sh d ∧ old[j]? = some (some (.sh d))) ∨ (j ∉ vs ∧ env[j]? = some (some m) ∧ (wipe σ vs)[j]? = σ[j]?) := fun j m e => by
    have hj : j < env.length := by
      have := (List.getElem?_eq_some_iff.mp e).1
      rw [backE_length] at this; exact this
    rw [backE_get old j vs env hj] at e
    by_cases hm : j ∈ vs
    · rw [if_pos hm] at e
      refine .inl ⟨hm, ?_⟩
      cases h : old[j]? with
      | none => rw [h] at e; simp [shOnly] at e
      | some w =>
        rw [h] at e
        cases w with
        | none => simp [shOnly] at e
        | some w =>
          cases w with
          | sh d => simp [shOnly] at e; exact ⟨d, e.symm, rfl⟩
          | ow k c => simp [shOnly] at e
    · rw [if_neg hm] at e
      exact .inr ⟨hm, e, by rw [wipe_get σ j vs (by omega), if_neg hm]⟩
  refine ⟨⟨by rw [backE_length]; exact hlen, ok.sub, ok.fr, ok.io, fun j m e => ?_, fun a b k c k' c' q h1 h2 e1 e2 => ?_, ok.tb⟩, fun p n j k c e z => ?_⟩
  · rcases key j m e with ⟨_, d, rfl, h⟩ | ⟨hm, h, hw⟩
    · obtain ⟨v, e1, e2⟩ := ok0.slot j _ h
      exact ⟨v, e1, e2.mono s⟩
    · rw [← hw]; exact ok.slot j m h
  · rcases key _ _ h1 with ⟨_, d, z, _⟩ | ⟨_, h1, w1⟩
    · cases z
    · rcases key _ _ h2 with ⟨_, d, z, _⟩ | ⟨_, h2, w2⟩
      · cases z
      · rw [← w1] at e1
        rw [← w2] at e2
        exact ok.inj a b k c k' c' q h1 h2 e1 e2
  · rcases key _ _ e with ⟨_, d, z, _⟩ | ⟨_, h1, w1⟩
    · cases z
    · rw [← w1] at z; exact n j k c h1 z
end
/-! ### targets -/
def gI [Tables] (vs : List Nat) (g : FG) : TG := fun v σ H Q => ∃ S Hs env d env', Ok S Hs H σ env ∧ Dq Hs v d ∧ g d env = .ok env' ∧ ∀ σ', Ok S Hs H σ' env' → σ'.length = σ.length → (∀ j, j ∉ vs → σ'[j]? = σ[j]?) → Q σ' H
def gsI [Tables] (vs : List Nat) (g : List D → Env → R Env) : TGs := fun ws σ H Q => ∃ S Hs env ds env', Ok S Hs H σ env ∧ DqAll Hs ws ds ∧ g ds env = .ok env' ∧ ∀ σ', Ok S Hs H σ' env' → σ'.length = σ.length → (∀ j, j ∉ vs → σ'[j]? = σ[j]?) → Q σ' H
abbrev GG [Tables] (X : Cx) (tg : Expr) (vs : List Nat) (g : FG) : Prop := PG X tg (gI vs g)
abbrev GGs [Tables] (X : Cx) (tgs : List Expr) (vs : List Nat) (gs : List FG) : Prop := PGs X tgs (gsI vs (gSeq gs))
theorem PGs.imp {X : Cx} {e : List Expr} {t t' : TGs} (h : PGs X e t) (i : ∀ v σ H Q, t' v σ H Q → t v σ H Q) : PGs X e t' := ⟨fun pins s σ H v u Q I r q => h.run pins s σ H v u Q I r (i v σ H Q q)⟩
section
variable [Tables] {X : Cx} {pos : Pos}
theorem gg_name (i : Nat) {x : Str} (hN : X.N.Nodup) (hi : X.N[i]? = some x := by rfl) (hx : Loc X.env.scope x := by first | exact Or.inl rfl | exact Or.inr rfl) (hf : X.fn x = true ∨ X.env.scope.names.lookup x = some .local := by first | exact .inl rfl | exact .inr rfl | assumption) : GG X (.Name x pos) [i] (gName i) := by
  refine PG.imp (pg_name (i := i) hN hi hx hf) fun v σ H Q ⟨S, Hs, env, d, env', ok, h, e, q⟩ => ?_
  cases e
  exact q _ (ok.put h) (List.length_set ..) fun j hj => List.getElem?_set_ne (fun z => hj (by simp [z]))
theorem ggs_nil : GGs X [] [] [] := PGs.imp pgs_nil fun vs σ H Q ⟨S, Hs, env, ds, env', ok, h, e, q⟩ => by
  cases h with
  | nil =>
    cases e
    exact ⟨rfl, q σ ok rfl fun _ _ => rfl⟩
  | cons _ _ => cases e
theorem ggs_cons {e : Expr} {es : List Expr} {vs ws : List Nat} {g : FG} {gs : List FG} (h1 : GG X e vs g) (h2 : GGs X es ws gs) (hs : (assignEach (e :: es) X.env).map (·.2) = assign e X.env :: (assignEach es X.env).map (·.2) := by rfl) : GGs X (e :: es) (vs ++ ws) (g :: gs) := by
  refine PGs.imp (pgs_cons h1 h2 hs) fun us σ H Q ⟨S, Hs, env, ds, env', ok, h, e, q⟩ => ?_
  cases h with
  | nil => cases e
  | @cons v r d ds hd hr =>
    obtain ⟨e1, h1, h2⟩ := bnd_ok_inv (show (g d env).bnd (fun e => gSeq gs ds e) = .ok env' from e)
    refine ⟨v, r, rfl, S, Hs, env, d, e1, ok, hd, h1, fun σ1 ok1 l1 f1 => ⟨S, Hs, e1, ds, env', ok1, hr, h2, fun σ2 ok2 l2 f2 => q σ2 ok2 (l2.trans l1) fun j hj => ?_⟩⟩
    rw [List.mem_append, not_or] at hj
    rw [f2 j hj.2, f1 j hj.1]
theorem gg_tup {es : List Expr} {k : Nat} {vs : List Nat} {gs : List FG} (hc : X.calm = true) (h : GGs X es vs gs) (hl : (assignEach es X.env).length = gs.length := by rfl) (hst : (assignEach es X.env).findIdx? (·.1) = none := by rfl) : GG X (.Tuple es k pos) vs (PI.gTup gs) := by
  refine PG.imp (pg_tup (n := gs.length) hc h hl hst) fun v σ H Q ⟨S, Hs, env, d, env', ok, h, e, q⟩ => ?_
  cases d with
  | tuple ds =>
    cases h with
    | @tup a xs ds h1 h2 h3 =>
      have hlen : ∀ (gs : List FG) (ds : List D) (env env' : Env), gSeq gs ds env = .ok env' → gs.length = ds.length := fun gs => by
        induction gs with
        | nil =>
          intro ds env env' e
          cases ds with
          | nil => rfl
          | cons _ _ => cases e
        | cons g gs ih =>
          intro ds env env' e
          cases ds with
          | nil => cases e
          | cons d ds =>
            obtain ⟨e1, _, h2⟩ := bnd_ok_inv (show (g d env).bnd (fun e => gSeq gs ds e) = .ok env' from e)
            simp [ih ds _ _ h2]
      refine ⟨a, xs, rfl, SqT.of (ok.sub _ _ h1), ?_, S, Hs, env, ds, env', ok, h3, e, q⟩
      rw [h3.length, hlen gs ds env env' e]
  | _ => cases e
end
/-! ### what is walked -/
def Src (J : It) (Hs : Hp) (ds : List D) : Prop := ∀ (i : Nat) (H : Hp), Same Hs H → (∀ d, ds[i]? = some d → J.go i H ∧ ∀ x H', J.yld i H x H' → (H' = H ∧ Dq Hs x d) ∨ ∃ T vs es, x = .ref T ∧ ((H T = none ∧ H' = upd H T (.tup vs)) ∨ (H' = H ∧ H T = some (.tup vs))) ∧ vs.length ≤ sizeLine ∧ d = .tuple es ∧ DqAll Hs vs es) ∧ (ds.length ≤ i → J.stop i H)
theorem Src.mono {J : It} {Hs Hs' : Hp} {ds : List D} (h : Src J Hs ds) (s : Same Hs Hs') : Src J Hs' ds := fun i H sH => by
  obtain ⟨h1, h2⟩ := h i H (s.trans sH)
  refine ⟨fun d hd => ⟨(h1 d hd).1, fun x H' y => ?_⟩, h2⟩
  rcases (h1 d hd).2 x H' y with ⟨e, q⟩ | ⟨T, vs, es, e1, e2, e4, e5, e6⟩
  · exact .inl ⟨e, q.mono s⟩
  · exact .inr ⟨T, vs, es, e1, e2, e4, e5, e6.mono s⟩
def PIs [Tables] (S : Fm) (Hs : Hp) (σ : St) (R : It → Hp → Prop) (z : List D × Env) : Prop := ∀ J Hs' H', Same Hs Hs' → Ok S Hs' H' σ z.2 → z.1.length ≤ sizeLine → Src J Hs' z.1 → R J H'
def iI [Tables] (E : XE) (fi : FI) : TI := fun σ H R => ∃ S Hs env, Ok S Hs H σ env ∧ (fi env).RD (PIs S Hs σ R) (EC E S Hs)
abbrev GI [Tables] (X : Cx) (E : XE) (tg iter : Expr) (fi : FI) : Prop := L2.PI X tg iter (iI E fi)
theorem iI.mono [Tables] {E : XE} {f : FI} {σ : St} {H : Hp} {R R' : It → Hp → Prop} (h : iI E f σ H R) (i : ∀ J H, R J H → R' J H) : iI E f σ H R' := by
  obtain ⟨S, Hs, env, ok, h⟩ := h
  exact ⟨S, Hs, env, ok, h.mono (fun x hx J Hs' H' s o l r => i _ _ (hx J Hs' H' s o l r)) fun _ z => z⟩
theorem bindI [Tables] {E : XE} {S : Fm} {Hs H : Hp} {σ : St} {env : Env} {β : Type} {f : FI} {k : List D × Env → R β} {P : β → Prop} (ok : Ok S Hs H σ env) (h : ((f env).bnd k).RD P (EC E S Hs)) :
    iI E f σ H fun J H1 => ∃ Hs1 z, Same Hs Hs1 ∧ Ok S Hs1 H1 σ z.2 ∧ z.1.length ≤ sizeLine ∧ Src J Hs1 z.1 ∧ (k z).RD P (EC E S Hs1) := by
  rw [RD_bnd] at h
  exact ⟨S, Hs, env, ok, h.mono (fun x hx J Hs' H' s o l r => ⟨Hs', x, s, o, l, r, hx.mono (fun _ z => z) fun _ z => z.mono s⟩) fun _ z => z⟩
section
variable [Tables] {X : Cx} {E : XE} {tg : Expr}
omit [Tables] in
theorem src_list {Hs : Hp} {a : Addr} {xs : List V} {ds : List D} (h : Hs a = some (.lst xs)) (r : DqAll Hs xs ds) : Src (Itl X.K a) Hs ds := fun i H s => by
  have hH := s _ _ h
  refine ⟨fun d hd => ?_, fun hl => ⟨xs, SqL.of hH, by rw [r.length]; exact hl⟩⟩
  obtain ⟨v, hv, dv⟩ := r.get hd
  refine ⟨⟨xs, v, SqL.of hH, hv⟩, fun x H' ⟨e, y⟩ => .inl ⟨e, ?_⟩⟩
  have := y xs (SqL.of hH)
  rw [hv] at this; cases this
  exact dv
omit [Tables] in
theorem src_tup {Hs : Hp} {a : Addr} {xs : List V} {ds : List D} (h : Hs a = some (.tup xs)) (r : DqAll Hs xs ds) : Src (Itt X.K a) Hs ds := fun i H s => by
  have hH := s _ _ h
  refine ⟨fun d hd => ?_, fun hl => ⟨xs, SqT.of hH, by rw [r.length]; exact hl⟩⟩
  obtain ⟨v, hv, dv⟩ := r.get hd
  refine ⟨⟨xs, v, SqT.of hH, hv⟩, fun x H' ⟨e, y⟩ => .inl ⟨e, ?_⟩⟩
  have := y xs (SqT.of hH)
  rw [hv] at this; cases this
  exact dv
omit [Tables] in
theorem rng_get : ∀ (n : Nat) (lo : Int) (i : Nat), (rng lo n)[i]? = if i < n then some (.int (lo + i)) else none
  | 0, lo, i => by simp [rng]
  | n + 1, lo, 0 => by simp [rng]
  | n + 1, lo, i + 1 => by
    simp only [rng, List.getElem?_cons_succ, rng_get n (lo + 1) i]
    by_cases h : i < n
    · rw [if_pos h, if_pos (by omega)]
      congr 2
      omega
    · rw [if_neg h, if_neg (by omega)]
omit [Tables] in
theorem rng_len : ∀ (n : Nat) (lo : Int), (rng lo n).length = n
  | 0, _ => rfl
  | n + 1, lo => by simp [rng, rng_len n]
omit [Tables] in
theorem src_rng {Hs : Hp} {lo : Int} {n : Nat} : Src (Itr lo n) Hs (rng lo n) := fun i H s => by
  refine ⟨fun d hd => ?_, fun hl => by rw [rng_len] at hl; exact hl⟩
  rw [rng_get] at hd
  by_cases h : i < n
  · rw [if_pos h] at hd; cases hd
    exact ⟨h, fun x H' ⟨e, y⟩ => .inl ⟨e, by rw [y]; exact .int _⟩⟩
  · rw [if_neg h] at hd; cases hd
omit [Tables] in
theorem kD_kV {H : Hp} (k : Key) : Dq H (kV k) (kD k) := by
  cases k with
  | inl i => exact .int i
  | inr x => exact .str x
omit [Tables] in
theorem kDs_all {H : Hp} : ∀ k : List Key, DqAll H (k.map kV) (k.map kD)
  | [] => .nil
  | k :: ks => .cons (kD_kV k) (kDs_all ks)
omit [Tables] in
theorem DqK.length {H : Hp} : ∀ {kvs : List (D × D)} {ks : List (Key × V)}, DqK H ks kvs → ks.length = kvs.length
  | _, _, .nil => rfl
  | _, _, .cons _ r => by simp [DqK.length r]
omit [Tables] in
theorem DqT.length {H : Hp} : ∀ {kvs : List (D × D)} {ks : List (List Key × V)}, DqT H ks kvs → ks.length = kvs.length
  | _, _, .nil => rfl
  | _, _, .cons _ _ r => by simp [DqT.length r]
omit [Tables] in
theorem DqK.get {H : Hp} : ∀ {kvs : List (D × D)} {ks : List (Key × V)} {i : Nat} {kd d : D}, DqK H ks kvs → kvs[i]? = some (kd, d) → ∃ k v, ks[i]? = some (k, v) ∧ kd = kD k ∧ Dq H v d
  | _, _, _, _, _, .nil, e => by simp at e
  | _, _, 0, _, _, .cons h _, e => by simp at e; obtain ⟨rfl, rfl⟩ := e; exact ⟨_, _, rfl, rfl, h⟩
  | _, _, i + 1, _, _, .cons _ r, e => by simpa using DqK.get (i := i) r (by simpa using e)
omit [Tables] in
theorem DqT.get {H : Hp} : ∀ {kvs : List (D × D)} {ks : List (List Key × V)} {i : Nat} {kd d : D}, DqT H ks kvs → kvs[i]? = some (kd, d) → ∃ k v, ks[i]? = some (k, v) ∧ kd = kDs k ∧ k.length ≤ sizeLine ∧ Dq H v d
  | _, _, _, _, _, .nil, e => by simp at e
  | _, _, 0, _, _, .cons z h _, e => by simp at e; obtain ⟨rfl, rfl⟩ := e; exact ⟨_, _, rfl, rfl, z, h⟩
  | _, _, i + 1, _, _, .cons _ _ r, e => by simpa using DqT.get (i := i) r (by simpa using e)
omit [Tables] in
theorem DqK.seq {H : Hp} {kvs : List (D × D)} {ks : List (Key × V)} (h : DqK H ks kvs) : seqOf (.dict kvs) = .ok (kvs.map (·.1)) := by
  cases h with
  | nil => rfl
  | @cons k _ _ _ _ _ _ => cases k <;> rfl
omit [Tables] in
theorem src_keysK {Hs : Hp} {a : Addr} {o : Obj} {ks : List (Key × V)} {kvs : List (D × D)} (h : Hs a = some (.frz o (.dK ks))) (r : DqK Hs ks kvs) : Src (Itk a o ks) Hs (kvs.map (·.1)) := fun i H s => by
  have hH := s _ _ h
  have hl := r.length
  refine ⟨fun d hd => ?_, fun z => ⟨hH, by simpa [hl] using z⟩⟩
  rw [List.getElem?_map] at hd
  cases hk : kvs[i]? with
  | none => rw [hk] at hd; cases hd
  | some p =>
    rw [hk] at hd
    obtain ⟨kd, d0⟩ := p
    cases hd
    obtain ⟨k, v, e1, e2, e3⟩ := r.get hk
    refine ⟨⟨hH, by have := (List.getElem?_eq_some_iff.mp e1).1; exact this⟩, fun x H' ⟨e, k', v', e4, e5⟩ => .inl ⟨e, ?_⟩⟩
    rw [e1] at e4; cases e4
    rw [e2, e5]; exact kD_kV k
omit [Tables] in
theorem src_keysT {Hs : Hp} {a : Addr} {o : Obj} {ks : List (List Key × V)} {kvs : List (D × D)} (h : Hs a = some (.frz o (.dT ks))) (r : DqT Hs ks kvs) : Src (Itkt a o ks) Hs (kvs.map (·.1)) := fun i H s => by
  have hH := s _ _ h
  have hl := r.length
  refine ⟨fun d hd => ?_, fun z => ⟨hH, by simpa [hl] using z⟩⟩
  rw [List.getElem?_map] at hd
  cases hk : kvs[i]? with
  | none => rw [hk] at hd; cases hd
  | some p =>
    rw [hk] at hd
    obtain ⟨kd, d0⟩ := p
    cases hd
    obtain ⟨k, v, e1, e2, z, e3⟩ := r.get hk
    refine ⟨⟨hH, by have := (List.getElem?_eq_some_iff.mp e1).1; exact this⟩, fun x H' ⟨e, k', v', q, e4, e5, e6⟩ => .inr ⟨q, _, _, e5, .inr ⟨e, e6⟩, ?_, ?_, kDs_all k'⟩⟩
    · rw [e1] at e4; cases e4; rw [List.length_map]; exact z
    · rw [e1] at e4; cases e4; exact e2
/-- a list, a tuple, a dict by its keys -/
theorem gi_seq {e : Expr} {fe : FE} (he : GE X E e fe) : GI X E tg e (iSeq fe) := by
  refine ⟨fun pins s σ H R I ⟨S, Hs, env, ok, h⟩ => ?_⟩
  refine thn ((ge_fz he).run pins s σ H _ I (bindL ok h)) fun v s1 ⟨x, H1, I1, r1, Hs1, y, s1', o1, d1, q⟩ => ?_
  obtain ⟨d, e1⟩ := y
  have q : ((seqOf d).bnd fun ds => .ok (ds, e1)).RD (PIs S Hs σ R) (EC E S Hs1) := q
  cases d with
  | list ds =>
    cases d1 with
    | @lst a xs ds h1 h2 h3 =>
      cases r1
      obtain ⟨its, rv, p, hz⟩ := I1.list (SqL.of (o1.sub _ _ h1))
      refine wpAny_pyIter_list p.isList ?_
      refine ⟨s1.heap.objs.size, [s1.heap.objs.size], _, _, H1, rfl, I1.kept (t' := s1.toks) fun b o e => Heap.get?_push_of_some _ e, turn_list a _, ⟨_, Heap.get?_push_size _ rfl, rfl, rfl⟩, fun b hb => ?_, ?_⟩
      · have e : b = s1.heap.objs.size := by simpa using hb
        subst e
        exact I1.fpOk (Nat.le_refl _) (I1.hok.fresh (Nat.le_refl _))
      · exact q _ Hs1 H1 s1' o1 (by rw [← h3.length]; exact h2) (src_list h1 h3)
  | tuple ds =>
    cases d1 with
    | @tup a xs ds h1 h2 h3 =>
      cases r1
      obtain ⟨its, rv, p, hz⟩ := I1.tuple (SqT.of (o1.sub _ _ h1))
      refine wpAny_pyIter_tuple (show s1.heap.IsTuple a its.toArray from p) ?_
      refine ⟨s1.heap.objs.size, [s1.heap.objs.size], _, _, H1, rfl, I1.kept (t' := s1.toks) fun b o e => Heap.get?_push_of_some _ e, turn_tuple a _, ⟨_, Heap.get?_push_size _ rfl, rfl, rfl⟩, fun b hb => ?_, ?_⟩
      · have e : b = s1.heap.objs.size := by simpa using hb
        subst e
        exact I1.fpOk (Nat.le_refl _) (I1.hok.fresh (Nat.le_refl _))
      · exact q _ Hs1 H1 s1' o1 (by rw [← h3.length]; exact h2) (src_tup h1 h3)
  | dict l =>
    cases d1 with
    | @dctK a o ks kvs h1 h2 h3 =>
      cases r1
      rw [h3.seq] at q
      obtain ⟨hs, hgd, hx, es, ep, vs, hdt, hsz, kv, hm⟩ := I1.frzK (o1.sub _ _ h1)
      refine iter_keys hs hgd hx hdt (pi_one (tk := s1.toks) I1 _ (turn_keys _ hdt) ⟨_, Heap.get?_push_size _ rfl, rfl, ?_⟩ (q _ Hs1 H1 s1' o1 (by rw [List.length_map, ← h3.length]; exact h2) (src_keysK h1 h3)))
      rw [hsz] <;> rfl
    | @dctT a o ks kvs h1 h2 h3 =>
      cases r1
      obtain ⟨hs, hgd, hx, es, ep, hdt, hsz, ent⟩ := I1.frzT (o1.sub _ _ h1)
      refine iter_keys hs hgd hx hdt (pi_one (tk := s1.toks) I1 _ (turn_keysT _ hdt) ⟨_, Heap.get?_push_size _ rfl, rfl, ?_⟩ (q _ Hs1 H1 s1' o1 (by rw [List.length_map, ← h3.length]; exact h2) (src_keysT h1 h3)))
      rw [hsz] <;> rfl
  | _ => exact q.elim
theorem gi_range1 {a : Expr} {fa : FE} {p pos : Pos} (hg : Gl X "range") (hm : X.mg "range" = none) (ha : GE X E a fa) (hs : starEach [a] X.env = [(false, eval a X.env)] := by rfl) : GI X E tg (.Call (.Name "range" p) [a] [] pos) (iRange1 fa) := by
  refine PI.imp (pi_range1 hg hm (ga_cons ha ga_nil hs) hs) fun σ H R ⟨S, Hs, env, ok, h⟩ => ?_
  refine aI.mono (bindA ok h) fun vs H1 ⟨Hs1, z, s1, o1, d1, q⟩ => ?_
  obtain ⟨ds, e1⟩ := z
  simp only at q
  split at q
  · rename_i ds0 j
    cases d1 with
    | cons h1 h2 =>
      cases h1
      cases h2
      split at q
      · rename_i hb
        refine ⟨j, rfl, by omega, by omega, q _ Hs1 H1 s1 o1 ?_ src_rng⟩
        rw [rng_len, sizeLine_eq]
        omega
      · exact q.elim
  · exact q.elim
theorem gi_range2 {a b : Expr} {fa fb : FE} {p pos : Pos} (hg : Gl X "range") (hm : X.mg "range" = none) (ha : GE X E a fa) (hb : GE X E b fb) (hs : starEach [a, b] X.env = [(false, eval a X.env), (false, eval b X.env)] := by rfl) (hs2 : starEach [b] X.env = [(false, eval b X.env)] := by rfl) : GI X E tg (.Call (.Name "range" p) [a, b] [] pos) (iRange2 fa fb) := by
  refine PI.imp (pi_range2 hg hm (ga_cons ha (ga_cons hb ga_nil hs2) (by rw [hs, hs2])) hs hs2) fun σ H R ⟨S, Hs, env, ok, h⟩ => ?_
  refine aI.mono (bindA ok h) fun vs H1 ⟨Hs1, z, s1, o1, d1, q⟩ => ?_
  obtain ⟨ds, e1⟩ := z
  simp only at q
  split at q
  · rename_i ds0 i j
    cases d1 with
    | cons h1 h2 =>
      cases h2 with
      | cons h2 h3 =>
        cases h1
        cases h2
        cases h3
        split at q
        · rename_i hb
          refine ⟨i, j, rfl, ⟨by omega, by omega, by omega, by omega⟩, q _ Hs1 H1 s1 o1 ?_ src_rng⟩
          rw [rng_len, sizeLine_eq]
          omega
        · exact q.elim
  · exact q.elim
end
end PI
set_option autoImplicit false
set_option Elab.async false
set_option linter.all false
set_option maxRecDepth 100000
set_option autoImplicit false
/-! Pi4: comprehensions, statements. -/
namespace PI
open PySem PySem.Spec PyProof.Rows L2
open R (RD_bnd)
theorem sizeL : (sizeLine : Nat) = 16777216 := sizeLine_eq
/-! ### comprehensions -/
section
variable [Tables] {E' : XE} {S : Fm} {tg : FG} {ts : FT} {el : FE} {own : List Nat}
/-- one turn's work of a block whose new list stands at D -/
theorem turn_lc {Hs H : Hp} {σ : St} {env : Env} {L0 : Addr} {acc : List D} {vacc : List V} {ds : List D} {o : List D × Env} {vt : List Nat} {x : V} {d : D} {Nx : Hp → Prop}
    (hvt : ∀ i ∈ vt, i ∈ own) (hF : S.Fr L0 = none) (ok : Ok (S.bar L0 (.lst vacc)) Hs H (wipe σ own) env) (hx : Dq Hs x d) (hacc : DqAll Hs vacc acc) (hsz : o.1.length ≤ sizeLine)
    (e : compL tg ts el own (d :: ds) env acc = .ok o)
    (nx : ∀ Hs' H' env' acc' vacc', Same Hs Hs' → Ok (S.bar L0 (.lst vacc')) Hs' H' (wipe σ own) env' → DqAll Hs' vacc' acc' → vacc'.length ≤ vacc.length + 1 → compL tg ts el own ds env' acc' = .ok o → Nx H')
    (hlen : vacc.length < sizeLine ) :
    gI vt tg x (wipe σ own) H fun σ2 H2 => wipe σ2 own = wipe σ own ∧ bI E' ts σ2 H2 fun b H3 => if b = true then tI E' el σ2 H3 fun y H4 => ∃ acc, H4 L0 = some (.lst acc) ∧ acc.length < sizeLine ∧ Nx (upd H4 L0 (.lst (acc ++ [y]))) else Nx H3 := by
  unfold compL at e
  obtain ⟨e1, h1, e⟩ := bnd_ok_inv e
  obtain ⟨t, h2, e⟩ := bnd_ok_inv e
  refine ⟨S.bar L0 (.lst vacc), Hs, env, d, e1, ok, hx, nox_ok_of h1, fun σ2 ok2 l2 f2 => ?_⟩
  have hw : wipe σ2 own = wipe σ own := (wipe_eq l2 fun j hj => f2 j fun z => hj (hvt j z)).trans (wipe_wipe own)
  refine ⟨hw, S.bar L0 (.lst vacc), Hs, e1, ok2, ?_⟩
  rw [h2]
  intro Hs3 H3 s3 o3
  obtain ⟨b, e2⟩ := t
  cases b with
  | false =>
    simp only [Bool.false_eq_true, if_false] at e ⊢
    exact nx Hs3 H3 _ acc vacc s3 (by rw [← hw]; exact o3.wiped own) (hacc.mono s3) (Nat.le_succ _) e
  | true =>
    simp only [if_true] at e ⊢
    obtain ⟨r, h4, e⟩ := bnd_ok_inv e
    obtain ⟨y, h5, e⟩ := bnd_ok_inv e
    refine ⟨S.bar L0 (.lst vacc), Hs3, e2, o3, ?_⟩
    rw [h4]
    intro v Hs4 H4 s4 o4 r4
    obtain ⟨Hs5, s5, o5, d5⟩ := o4.fzd r4 h5
    have hD := (o5.unbar hF).2.1
    refine ⟨vacc, hD, hlen, ?_⟩
    have s := (s3.trans s4).trans s5
    exact nx Hs5 _ _ (acc ++ [y.1]) (vacc ++ [v]) s (by rw [← hw]; exact (o5.rebar hF).wiped own) ((hacc.mono s).append (.one d5)) (by simp) e
omit [Tables] in
theorem compL_len : ∀ (ds : List D) (env : Env) (acc : List D) {o : List D × Env}, compL tg ts el own ds env acc = .ok o → acc.length ≤ o.1.length ∧ o.1.length ≤ acc.length + ds.length
  | [], env, acc, o, e => by
    unfold compL at e; cases e; simp
  | d :: ds, env, acc, o, e => by
    unfold compL at e
    obtain ⟨e1, h1, e⟩ := bnd_ok_inv e
    obtain ⟨t, h2, e⟩ := bnd_ok_inv e
    by_cases hb : t.1 = true
    · rw [if_pos hb] at e
      obtain ⟨r, h4, e⟩ := bnd_ok_inv e
      obtain ⟨y, h5, e⟩ := bnd_ok_inv e
      have := compL_len ds _ _ e
      simp only [List.length_append, List.length_cons, List.length_nil] at this ⊢
      omega
    · rw [if_neg hb] at e
      have := compL_len ds _ _ e
      simp only [List.length_cons]
      omega
end
theorem drop_cons {α : Type} {xs : List α} {i : Nat} (h : i < xs.length) : xs.drop i = xs[i] :: xs.drop (i + 1) := List.drop_eq_getElem_cons h
/-- an item that comes, in the heap -/
theorem src_step [Tables] {J : It} {Hs Hs' H H' : Hp} {ds : List D} {i : Nat} {x : V} {d : D} {S : Fm} {σ : St} {env : Env} (src : Src J Hs ds) (s : Same Hs Hs') (ok : Ok S Hs' H σ env) (hd : ds[i]? = some d) (y : J.yld i H x H') :
    ∃ Hs2, Same Hs' Hs2 ∧ Ok S Hs2 H' σ env ∧ Dq Hs2 x d := by
  rcases ((src i H (s.trans ok.sub)).1 d hd).2 x H' y with ⟨e, q⟩ | ⟨T, vs, es, e1, ⟨e2, e3⟩ | ⟨e2, e3⟩, e4, e5, e6⟩
  · subst e
    exact ⟨Hs', Same.refl _, ok, q.mono s⟩
  · subst e1 e3 e5
    have f := (ok.free e2).1
    exact ⟨upd Hs' T (.tup vs), same_upd f, ok.allocS e2, .tup upd_same e4 (e6.mono (s.trans (same_upd f)))⟩
  · subst e1 e2 e5
    cases f : Hs' T with
    | none => exact ⟨upd Hs' T (.tup vs), same_upd f, ok.adoptT e3 f, .tup upd_same e4 (e6.mono (s.trans (same_upd f)))⟩
    | some o =>
      have := ok.sub _ _ f
      rw [e3] at this; cases this
      exact ⟨Hs', Same.refl _, ok, .tup f e4 (e6.mono s)⟩
section
variable [Tables] {X : Cx} {E E' : XE}
theorem lcI {fi : FI} {tg : FG} {ts : FT} {el : FE} {own vt : List Nat} (hvt : ∀ i ∈ vt, i ∈ own) {σ : St} {H : Hp} {Q : VK} (h : tI E (fComp own fi tg ts el) σ H Q) :
    tLc (iI E fi) (gI vt tg) (bI E' ts) (tI E' el) own σ H Q := by
  obtain ⟨S, Hs, env, ok, h⟩ := h
  refine iI.mono (bindI ok h) fun J H1 ⟨Hs1, z, s1, ok1, hlen, src, q⟩ => ?_
  obtain ⟨o, e, q⟩ := RD.inv (nox_nox _) q
  have e := nox_ok_of e
  intro D hD
  obtain ⟨f1, f2, f3, f4⟩ := ok1.free hD
  have hol : o.1.length ≤ sizeLine := by
    have := compL_len _ _ _ e
    simp only [List.length_nil] at this
    omega
  refine ⟨fun i m H' => m = z.1.length - i ∧ i ≤ z.1.length ∧ ∃ Hs' env' acc vacc, Same Hs1 Hs' ∧ Ok (S.bar D (.lst vacc)) Hs' H' (wipe σ own) env' ∧ vacc.length ≤ i ∧ DqAll Hs' vacc acc ∧ compL tg ts el own (z.1.drop i) env' acc = .ok o, ⟨z.1.length, by simp, Nat.zero_le _, Hs1, _, [], [], Same.refl _, ?_, Nat.le_refl _, .nil, e⟩, ?_⟩
  · exact Ok.bar ((ok1.alloc hD).wiped own) upd_same f1 f2 f3 (fun j k c e z => by
      have w := (ok1.wiped own).slot j _ e
      obtain ⟨p, e1, hO⟩ := w
      rw [z] at e1; cases e1
      obtain ⟨_, ho, _⟩ := hO.2.2.1
      rw [hD] at ho; cases ho)
  · rintro i m H' ⟨rfl, hi, Hs', env', acc, vacc, s', ok', hv, hacc, e'⟩
    by_cases hlt : i < z.1.length
    · have hd : z.1[i]? = some z.1[i] := List.getElem?_eq_getElem hlt
      rw [drop_cons hlt] at e'
      refine .inr ⟨((src i H' (s'.trans ok'.sub)).1 _ hd).1, fun H2 => z.1.length - (i + 1) = z.1.length - (i + 1) ∧ i + 1 ≤ z.1.length ∧ ∃ Hs' env' acc vacc, Same Hs1 Hs' ∧ Ok (S.bar D (.lst vacc)) Hs' H2 (wipe σ own) env' ∧ vacc.length ≤ i + 1 ∧ DqAll Hs' vacc acc ∧ compL tg ts el own (z.1.drop (i + 1)) env' acc = .ok o, fun H2 w => ⟨_, by omega, w⟩, fun x H2 y => ?_⟩
      obtain ⟨Hs2, s2, ok2, dx⟩ := src_step src s' ok' hd y
      exact turn_lc hvt f2 ok2 dx (hacc.mono s2) hol e' (fun Hs3 H3 env3 acc3 vacc3 s3 ok3 h3 l3 e3 => ⟨rfl, hlt, Hs3, env3, acc3, vacc3, (s'.trans s2).trans s3, ok3, by omega, h3, e3⟩) (by omega)
    · have hi' : i = z.1.length := by omega
      subst hi'
      rw [List.drop_length] at e'
      unfold compL at e'
      cases e'
      refine .inl ⟨(src _ H' (s'.trans ok'.sub)).2 (Nat.le_refl _), ?_⟩
      obtain ⟨ok2, g1, g2, g3, g4⟩ := ok'.unbar f2
      obtain ⟨ok3, ns⟩ := ok1.backed s' ok2
      exact q (.ref D) Hs' H' (s1.trans s') ok3 ⟨D, rfl, ⟨g2, f2, ⟨_, g1, vacc, rfl, by omega, hacc⟩, fun _ => g3, fun z => nomatch z⟩, ns D g4⟩
/-- a clause's tests -/
abbrev GTs (X : Cx) (E : XE) (ifs : List Expr) (t : FT) : Prop := PTs X ifs (bI E t)
theorem gts_nil : GTs X E [] PI.tYes := ⟨fun pins s σ H Q I ⟨S, Hs, env, ok, h⟩ => (pts_nil (X := X)).run pins s σ H Q I (h Hs H (Same.refl _) ok)⟩
theorem gts_one {c : Expr} {t : FT} (h : GT X E c t) : GTs X E [c] t := pts_one h
theorem ge_lc {elt tg iter : Expr} {ifs : List Expr} {scope : Scope} {own : List (Str × Nat)} {pos : Pos} {fi : FI} {ftg : FG} {ts : FT} {el : FE} {vt : List Nat} (hc : X.calm = true) (hN : X.N.Nodup) (hi : GI X E tg iter fi) (ok : BlkOk X.N X.env.scope scope own) (hvt : ∀ i ∈ vt, i ∈ own.map (·.2))
    (hg : ∀ (s : Shared) (H : Hp) (C : Addr) (cl : List (Str × Addr)) (fp : List Addr), GG (X.blk s H scope (compEnvC scope cl C X.env) fp) tg vt ftg) (ht : ∀ (s : Shared) (H : Hp) (C : Addr) (cl : List (Str × Addr)) (fp : List Addr), GTs (X.blk s H scope (compEnvC scope cl C X.env) fp) E' ifs ts)
    (he : ∀ (s : Shared) (H : Hp) (C : Addr) (cl : List (Str × Addr)) (fp : List Addr), GE (X.blk s H scope (compEnvC scope cl C X.env) fp) E' elt el) (hs : ∀ x, foldedSetIterable iter X.env x = pure x := by intro _; rfl) :
    GE X E (.ListComp elt [⟨tg, iter, ifs, 0⟩] scope pos) (fComp (own.map (·.2)) fi ftg ts el) := PE.imp (pe_lc hc hN hi ok hg ht he hs) fun σ H Q h => lcI hvt h
end
/-! ### statements -/
section
variable [Tables] {S : Fm} {Hs H : Hp} {σ : St} {env e : Env} {v : V} {r : RV} {i : Nat}
theorem Ok.stowed (ok : Ok S Hs H σ env) (h : RVR S Hs H σ env v r) (he : stow i r env = .ok e) : ∃ Hs', Same Hs Hs' ∧ Ok S Hs' H (σ.set i (some v)) e := by
  cases r with
  | sh d => cases he; exact ⟨Hs, Same.refl _, ok.put h⟩
  | fr c =>
    cases he
    obtain ⟨p, e1, hO, n⟩ := h
    subst e1
    exact ⟨Hs, Same.refl _, ok.putOwn hO n⟩
  | no => cases he
  | br j =>
    obtain ⟨y, h1, h2⟩ := bnd_ok_inv (show (fz env (.br j)).bnd _ = .ok e from he)
    cases h2
    obtain ⟨Hs', s', o', d'⟩ := ok.fzd h h1
    exact ⟨Hs', s', o'.put d'⟩
theorem Ok.stowedL (ok : Ok S Hs H σ env) (h : RVR S Hs H σ env v r) (he : stowL i r env = .ok e) : (∃ Hs', Same Hs Hs' ∧ Ok S Hs' H (σ.set i (some v)) e) ∨ ∃ p o, v = .ref p ∧ H p = some o ∧ Mut (some o) ∧ ∀ od, ∃ Hs', Same Hs Hs' ∧ Ok S Hs' (upd H p (.frz od o)) (σ.set i (some v)) e := by
  cases r with
  | br j =>
    obtain ⟨y, h1, h2⟩ := bnd_ok_inv (show (fzL env (.br j)).bnd _ = .ok e from he)
    cases h2
    rcases ok.fzdL h h1 with ⟨Hs', s', o', d'⟩ | ⟨p, o, e1, hp, mu, hl⟩
    · exact .inl ⟨Hs', s', o'.put d'⟩
    · refine .inr ⟨p, o, e1, hp, mu, fun od => ?_⟩
      obtain ⟨Hs', s', o', d'⟩ := hl od
      exact ⟨Hs', s', o'.put d'⟩
  | sh d => exact .inl (ok.stowed h he)
  | fr c => exact .inl (ok.stowed h he)
  | no => exact .inl (ok.stowed h he)
omit [Tables] in
theorem stow_nox : ∀ c, stow i r env ≠ .exc c := by
  intro c h
  cases r with
  | sh d => cases h
  | fr d => cases h
  | no => cases h
  | br j =>
    have h : (fz env (.br j)).bnd (fun y => R.ok (y.2.set i (some (.sh y.1)))) = .exc c := h
    cases q : fz env (.br j) with
    | ok y => rw [q] at h; cases h
    | exc c' => exact fz_nox env _ c' q
    | bad => rw [q] at h; cases h
omit [Tables] in
theorem stowL_nox : ∀ c, stowL i r env ≠ .exc c := by
  intro c h
  cases r with
  | sh d => cases h
  | fr d => cases h
  | no => cases h
  | br j =>
    have h : (fzL env (.br j)).bnd (fun y => R.ok (y.2.set i (some (.sh y.1)))) = .exc c := h
    cases q : fzL env (.br j) with
    | ok y => rw [q] at h; cases h
    | exc c' => exact fzL_nox env _ c' q
    | bad => rw [q] at h; cases h
omit [Tables] in
theorem outOf_nox : ∀ c, outOf r env ≠ .exc c := by
  intro c h
  cases r with
  | sh d => cases h
  | fr d => cases h
  | no => cases h
  | br j =>
    simp only [outOf] at h
    split at h <;> cases h
end
section
variable [Tables] {X : Cx} {E E' : XE} {pos : Pos} {st : Stmt} {rest : List Stmt} {s t : FS} {e : Expr} {fa fb fc : FE}
theorem gss_nil : GSs X E [] sSkip := PSs.imp pss_nil fun De σ H ⟨S, Hs, env, ok, h⟩ => h σ Hs H (Same.refl _) ok
theorem gss_one (h : GS X E st s) : GSs X E [st] s := pss_one h
theorem gss_cons (h1 : GS X E st s) (h2 : GSs X E rest t) : GSs X E (st :: rest) (sSeq s t) := by
  refine PSs.imp (pss_cons h1 h2) fun De σ H ⟨S, Hs, env, ok, h⟩ => ?_
  unfold sSeq at h
  rw [RD_bnd] at h
  refine ⟨S, Hs, env, ok, h.mono (fun o ho => ?_) fun _ z => z⟩
  cases o with
  | nx e => exact fun σ' Hs' H' s' ok' => ⟨S, Hs', e, ok', ho.mono (fun o ho => by
      cases o with
      | nx e => exact fun σ Hs2 H2 s2 o2 => ho σ Hs2 H2 (s'.trans s2) o2
      | bk e => exact fun σ Hs2 H2 s2 o2 => ho σ Hs2 H2 (s'.trans s2) o2
      | ct e => exact fun σ Hs2 H2 s2 o2 => ho σ Hs2 H2 (s'.trans s2) o2
      | rt r e => exact fun v σ Hs2 H2 s2 o2 => ho v σ Hs2 H2 (s'.trans s2) o2) fun _ z => z.mono s'⟩
  | bk e => exact ho
  | ct e => exact ho
  | rt r e => exact ho
theorem setI {i : Nat} {De : Ends} {σ : St} {H : Hp} (h : sI E (sSet i fa) De σ H) : tAsg (LK (tI E fa)) (L2.gName i) De σ H := by
  obtain ⟨S, Hs, env, ok, h⟩ := h
  refine tI.mono (bindE ok h) fun v H1 ⟨Hs1, x, s1, o1, r1, q⟩ => ?_
  obtain ⟨e, h1, q⟩ := RD.inv (fun _ => stowL_nox _) q
  rcases o1.stowedL r1 h1 with ⟨Hs2, s2, o2⟩ | ⟨p, o, rfl, hp, mu, hl⟩
  · exact .inl (q _ Hs2 H1 (s1.trans s2) o2)
  · refine .inr ⟨p, o, rfl, hp, mu, fun od => ?_⟩
    obtain ⟨Hs2, s2, o2⟩ := hl od
    exact q _ Hs2 _ (s1.trans s2) o2
theorem gs_set (i : Nat) {x : Str} {pos' : Pos} (hN : X.N.Nodup) (he : GE X E e fa) (hi : X.N[i]? = some x := by rfl) (hx : Loc X.env.scope x := by first | exact Or.inl rfl | exact Or.inr rfl) (hs : swapsWith e (some (.Name x pos')) pos.line X.env = pure false := by rfl) (hf : X.fn x = true ∨ X.env.scope.names.lookup x = some .local := by first | exact .inl rfl | exact .inr rfl | assumption) :
    GS X E (.Assign [.Name x pos'] e pos) (sSet i fa) := PS.imp (ps_set hN hi hx (pe_lk he) hs hf) fun _ _ _ => setI
theorem gs_setLc (i : Nat) {y : Str} {py : Pos} {elt tg iter : Expr} {ifs : List Expr} {scope : Scope} {own : List (Str × Nat)} {pos spos : Pos} {fi : FI} {ftg : FG} {ts : FT} {el : FE} {vt : List Nat} (hc : X.calm = true) (hN : X.N.Nodup) (hy : X.N[i]? = some y) (hyl : X.env.scope.names.lookup y = some .local)
    (hsw : swapsWith (.ListComp elt [⟨tg, iter, ifs, 0⟩] scope pos) (some (.Name y py)) spos.line X.env = pure true) (hi : GI X E tg iter fi) (ok : BlkOk X.N X.env.scope scope own) (hvt : ∀ i ∈ vt, i ∈ own.map (·.2))
    (hg : ∀ (s : Shared) (H : Hp) (C : Addr) (cl : List (Str × Addr)) (fp : List Addr), GG (X.blk s H scope (compEnvC scope cl C X.env) fp) tg vt ftg) (ht : ∀ (s : Shared) (H : Hp) (C : Addr) (cl : List (Str × Addr)) (fp : List Addr), GTs (X.blk s H scope (compEnvC scope cl C X.env) fp) E' ifs ts)
    (he : ∀ (s : Shared) (H : Hp) (C : Addr) (cl : List (Str × Addr)) (fp : List Addr), GE (X.blk s H scope (compEnvC scope cl C X.env) fp) E' elt el) (hs : ∀ x, foldedSetIterable iter X.env x = pure x := by intro _; rfl) :
    GS X E (.Assign [.Name y py] (.ListComp elt [⟨tg, iter, ifs, 0⟩] scope pos) spos) (sSetC i (fComp (own.map (·.2)) fi ftg ts el)) := by
  refine PS.imp (ps_setLc hc hN hy hyl hsw hi ok hg ht he hs) fun De σ H h => ?_
  obtain ⟨S, Hs, env, ok, h⟩ := h
  refine lcI hvt (tI.mono (bindE ok h) fun v H1 ⟨Hs1, x, s1, o1, r1, q⟩ => ?_)
  obtain ⟨e, h1, q⟩ := RD.inv (fun _ => stow_nox _) q
  obtain ⟨Hs2, s2, o2⟩ := o1.stowed r1 h1
  exact q _ Hs2 H1 (s1.trans s2) o2
theorem gs_asg {tg : Expr} {vs : List Nat} {g : FG} (he : GE X E e fa) (hg : GG X tg vs g) (hs : swapsWithSole [tg] e pos.line X.env = pure false := by rfl) (hw : swappedStores [tg] e X.env = pure none := by rfl)
    (h1 : (assignEach [tg] X.env).map (·.2) = [assign tg X.env] := by rfl) : GS X E (.Assign [tg] e pos) (sAsg g fa) := by
  refine PS.imp (ps_asg (ge_fz he) hg hs hw h1) fun De σ H ⟨S, Hs, env, ok, h⟩ => ?_
  refine fI.mono (bindL ok h) fun v H1 ⟨Hs1, y, s1, o1, d1, q⟩ => ?_
  obtain ⟨e, h1, q⟩ := RD.inv (nox_nox _) q
  exact ⟨S, Hs1, y.2, y.1, e, o1, d1, nox_ok_of h1, fun σ' o' _ _ => q σ' Hs1 H1 s1 o'⟩
theorem gs_par {i j : Nat} {x y : Str} {a b : Expr} {px py pt : Pos} {kt k2 pt2} (hc : X.calm = true) (hN : X.N.Nodup) (hi : X.N[i]? = some x) (hj : X.N[j]? = some y) (hij : i ≠ j)
    (hx : X.env.scope.names.lookup x = some .local) (hy : X.env.scope.names.lookup y = some .local) (ha : GE X E a fa) (hb : GE X E b fb)
    (hw : swappedStores [.Tuple [.Name x px, .Name y py] kt pt] (.Tuple [a, b] k2 pt2) X.env = pure (some [x, y]))
    (hs : swapsWithSole [.Tuple [.Name x px, .Name y py] kt pt] (.Tuple [a, b] k2 pt2) pos.line X.env = pure false := by rfl)
    (ha1 : starEach (a :: [b]) X.env = (false, eval a X.env) :: starEach [b] X.env := by rfl) (hb1 : starEach [b] X.env = [(false, eval b X.env)] := by rfl) :
    GS X E (.Assign [.Tuple [.Name x px, .Name y py] kt pt] (.Tuple [a, b] k2 pt2) pos) (PI.sPar i j fa fb) := by
  refine PS.imp (ps_par hc hN hi hj hij hx hy (pa_cons ha (pa_cons hb pa_nil hb1) ha1) hw hs) fun De σ H ⟨S, Hs, env, ok, h⟩ => ?_
  unfold PI.sPar at h
  refine tI.mono (bindE ok h) fun v H1 ⟨Hs1, x, s1, o1, r1, q⟩ => ?_
  obtain ⟨x1, e1⟩ := x
  simp only at q o1 r1
  cases x1 with
  | br k => exact q.elim
  | no => exact q.elim
  | sh d =>
    refine tI.mono (bindE o1 q) fun w H2 ⟨Hs2, y, s2, o2, r2, q⟩ => ?_
    obtain ⟨y1, e2⟩ := y
    refine ⟨v, w, rfl, ?_⟩
    cases y1 with
    | br k => exact q.elim
    | no => exact q.elim
    | sh d2 => exact q _ Hs2 H2 (s1.trans s2) ((o2.put (Dq.mono s2 r1)).put r2)
    | fr c =>
      obtain ⟨p, e3, hO, n⟩ := r2
      subst e3
      exact q _ Hs2 H2 (s1.trans s2) ((o2.put (Dq.mono s2 r1)).putOwn hO n.put)
  | fr c =>
    obtain ⟨p, e3, hO, n⟩ := r1
    subst e3
    obtain ⟨ob, ho, hoc⟩ := id hO.2.2.1
    have hF := hO.2.1
    have o1' := o1.bar ho hO.1 hF (hO.2.2.2.1 rfl) n (notX_tb hoc.nx)
    have q' := q.mono (fun _ z => z) (fun c (z : EC E S Hs1 c) => (fun H' a b tt => z H' a (Same.bar b hF) tt : EC E (S.bar p ob) Hs1 c))
    refine tI.mono (bindE o1' q') fun w H2 ⟨Hs2, y, s2, o2, r2, q⟩ => ?_
    obtain ⟨y1, e2⟩ := y
    obtain ⟨o3, hp3, hs3, _, n3⟩ := o2.unbar hF hoc.ntp
    have hO3 : Own S Hs2 H2 true p c := ⟨hs3, hF, ⟨ob, hp3, hoc.mono s2⟩, hO.2.2.2.1, hO.2.2.2.2⟩
    refine ⟨_, w, rfl, ?_⟩
    cases y1 with
    | br k => exact q.elim
    | no => exact q.elim
    | sh d2 => exact q _ Hs2 H2 (s1.trans s2) ((o3.putOwn hO3 n3).put r2)
    | fr c2 =>
      obtain ⟨p2, e4, hO2, n2⟩ := r2
      subst e4
      obtain ⟨hO2', hne⟩ := hO2.unbar hF
      exact q _ Hs2 H2 (s1.trans s2) ((o3.putOwn hO3 n3).putOwn hO2' (n2.putOwn hne))
theorem gs_par3 {i j l : Nat} {x y z : Str} {a b c : Expr} {px py pz pt : Pos} {kt k2 pt2} (hc : X.calm = true) (hN : X.N.Nodup) (hi : X.N[i]? = some x) (hj : X.N[j]? = some y) (hl : X.N[l]? = some z) (hij : i ≠ j) (hil : i ≠ l) (hjl : j ≠ l)
    (hx : X.env.scope.names.lookup x = some .local) (hy : X.env.scope.names.lookup y = some .local) (hz : X.env.scope.names.lookup z = some .local) (ha : GE X E a fa) (hb : GE X E b fb) (hcc : GE X E c fc)
    (hw : swappedStores [.Tuple [.Name x px, .Name y py, .Name z pz] kt pt] (.Tuple [a, b, c] k2 pt2) X.env = pure (some [x, y, z]))
    (hs : swapsWithSole [.Tuple [.Name x px, .Name y py, .Name z pz] kt pt] (.Tuple [a, b, c] k2 pt2) pos.line X.env = pure false := by rfl)
    (ha1 : starEach (a :: [b, c]) X.env = (false, eval a X.env) :: starEach [b, c] X.env := by rfl) (hb1 : starEach (b :: [c]) X.env = (false, eval b X.env) :: starEach [c] X.env := by rfl) (hc1 : starEach [c] X.env = [(false, eval c X.env)] := by rfl) :
    GS X E (.Assign [.Tuple [.Name x px, .Name y py, .Name z pz] kt pt] (.Tuple [a, b, c] k2 pt2) pos) (sPar3 i j l fa fb fc) := by
  refine PS.imp (ps_par3 hc hN hi hj hl hij hil hjl hx hy hz (pa_cons ha (pa_cons hb (pa_cons hcc pa_nil hc1) hb1) ha1) hw hs) fun De σ H ⟨S, Hs, env, ok, h⟩ => ?_
  unfold sPar3 at h
  refine tI.mono (bindF ok h) fun v H1 ⟨Hs1, x, s1, o1, r1, q⟩ => ?_
  refine tI.mono (bindF o1 q) fun w H2 ⟨Hs2, y, s2, o2, r2, q⟩ => ?_
  refine tI.mono (bindF o2 q) fun u H3 ⟨Hs3, z, s3, o3, r3, q⟩ => ?_
  exact ⟨v, w, u, rfl, q _ Hs3 H3 ((s1.trans s2).trans s3) (((o3.put (r1.mono (s2.trans s3))).put (r2.mono s3)).put r3)⟩
theorem gs_if {c : Expr} {a b : List Stmt} {tc : FT} (hc : GT X E c tc) (ha : GSs X E a s) (hb : GSs X E b t) : GS X E (.If c a b pos) (sIf tc s t) := by
  refine PS.imp (ps_if hc ha hb) fun De σ H ⟨S, Hs, env, ok, h⟩ => ?_
  refine bI.mono (bindT ok h) fun c H1 ⟨Hs1, e, s1, o1, q⟩ => ?_
  have lift : ∀ o, PO S Hs De o → PO S Hs1 De o := fun o ho => by
    cases o with
    | nx e => exact fun σ Hs2 H2 s2 o2 => ho σ Hs2 H2 (s1.trans s2) o2
    | bk e => exact fun σ Hs2 H2 s2 o2 => ho σ Hs2 H2 (s1.trans s2) o2
    | ct e => exact fun σ Hs2 H2 s2 o2 => ho σ Hs2 H2 (s1.trans s2) o2
    | rt r e => exact fun v σ Hs2 H2 s2 o2 => ho v σ Hs2 H2 (s1.trans s2) o2
  cases c with
  | true => exact ⟨S, Hs1, e, o1, q.mono lift fun _ z => z⟩
  | false => exact ⟨S, Hs1, e, o1, q.mono lift fun _ z => z⟩
theorem gs_ret (he : GE X E e fa) : GS X E (.Return (some e) pos) (sRet fa) := by
  refine PS.imp (ps_ret he) fun De σ H ⟨S, Hs, env, ok, h⟩ => ?_
  refine tI.mono (bindE ok h) fun v H1 ⟨Hs1, x, s1, o1, r1, q⟩ => ?_
  obtain ⟨o, h1, q⟩ : ∃ o, outOf x.1 x.2 = .ok o ∧ PO S Hs De o := by
    cases hq : outOf x.1 x.2 with
    | ok o => rw [hq] at q; exact ⟨o, rfl, q⟩
    | exc c => exact absurd hq (outOf_nox c)
    | bad => rw [hq] at q; exact q.elim
  obtain ⟨r, e1⟩ := x
  cases r with
  | sh d => cases h1; exact q v σ Hs1 H1 s1 o1 r1
  | fr d => cases h1; exact q v σ Hs1 H1 s1 o1 r1
  | no => cases h1
  | br i =>
    simp only [outOf] at h1
    split at h1
    · rename_i d hd
      cases h1
      obtain ⟨w, e2, hd2⟩ := o1.slot i _ hd
      rw [show σ[i]? = some (some v) from r1] at e2; cases e2
      exact q v σ Hs1 H1 s1 o1 hd2
    · rename_i c hd
      cases h1
      obtain ⟨p, e2, hO⟩ := o1.slot i _ hd
      rw [show σ[i]? = some (some v) from r1] at e2; cases e2
      exact q _ σ Hs1 H1 s1 (o1.drop i) ⟨p, rfl, hO, NotSlot.drop o1 hd r1⟩
    · cases h1
theorem gs_retN : GS X E (.Return none pos) sRetN := PS.imp ps_retN fun De σ H ⟨S, Hs, env, ok, h⟩ => h .non σ Hs H (Same.refl _) ok .non
theorem gs_expr (he : GE X E e fa) (hs : swapsWith e none pos.line X.env = pure false := by rfl) : GS X E (.Expr e pos) (sExpr fa) := by
  refine PS.imp (ps_expr he hs) fun De σ H ⟨S, Hs, env, ok, h⟩ => ?_
  exact tI.mono (bindE ok h) fun v H1 ⟨Hs1, x, s1, o1, r1, q⟩ => q σ Hs1 H1 s1 o1
theorem gs_pass : GS X E (.Pass pos) sSkip := PS.imp ps_pass fun De σ H ⟨S, Hs, env, ok, h⟩ => h σ Hs H (Same.refl _) ok
theorem gs_break : GS X E (.Break pos) PI.sBreak := PS.imp ps_break fun De σ H ⟨S, Hs, env, ok, h⟩ => h σ Hs H (Same.refl _) ok
theorem gs_cont : GS X E (.Continue pos) PI.sCont := PS.imp ps_continue fun De σ H ⟨S, Hs, env, ok, h⟩ => h σ Hs H (Same.refl _) ok
/-- a raise in a def from which nothing is raised -/
abbrev F0 : XE := fun _ _ => False
theorem gs_raise0 {c : Str} : GS X F0 st (sRaise c) := PS.imp ps_never fun De σ H ⟨S, Hs, env, ok, h⟩ => h H ok.sub (fun b o e => (ok.fr b o e).1) ok.tb.1
omit [Tables] in
theorem isOwnL_inv {o : Option (Option MV)} (h : isOwnL o = true) : ∃ k ds, o = some (some (.ow k (.lst ds))) := by
  unfold isOwnL at h
  split at h
  · exact ⟨_, _, rfl⟩
  · cases h
theorem gs_app (i : Nat) {o a : Expr} {apos cpos : Pos} (ho : PE X o (tVar i)) (ha : GE X E a fa) (hbase : attributeBase o "append" X.env (eval o X.env) = eval o X.env := by rfl)
    (hs1 : starEach (a :: []) X.env = (false, eval a X.env) :: starEach [] X.env := by rfl)
    (hfew : ((backTo cpos (starEach (a :: []) X.env)).all (fun x => !x.1) && (backToKw cpos (keywordEach [] X.env)).all (fun x => x.1.isSome)
      && decide ((a :: ([] : List Expr)).length + ([] : List Keyword).length + (if ([] : List Keyword).isEmpty then 0 else 1) < 30)) = true := by rfl)
    (hline : (apos.endLine == cpos.line) = true := by rfl) (hplain : (backTo cpos (starEach ([] : List Expr) X.env)).any (·.1) = false := by rfl)
    (hs : swapsWith (.Call (.Attribute o "append" apos) [a] [] cpos) none pos.line X.env = pure false := by rfl) : GS X E (.Expr (.Call (.Attribute o "append" apos) [a] [] cpos) pos) (sApp i fa) := by
  refine PS.imp (ps_expr (pe_bm PySem.F.plainAttrs_list PySem.F.slot_list_append PySem.F.type_list_append mt_append ho (pa_cons (ge_fz ha) pa_nil hs1) hbase hfew hline hs1 hplain) hs) fun De σ H ⟨S, Hs, env, ok, h⟩ => ?_
  unfold sApp at h
  split at h
  · rename_i hown
    obtain ⟨k, ds, hown⟩ := isOwnL_inv hown
    obtain ⟨p, e1, hO⟩ := ok.slot i _ hown
    obtain ⟨ob, hob, xs0, ex0, _, _⟩ := hO.2.2.1
    subst ex0
    refine ⟨.ref p, e1, .inl ⟨rfl, xs0, SqL.of hob⟩, ?_⟩
    refine fI.mono (bindL ok h) fun v H1 ⟨Hs1, y, s1, o1, d1, q⟩ => ?_
    split at q
    · rename_i k2 ds2 h2
      obtain ⟨p2, e2, hO2⟩ := o1.slot i _ h2
      rw [e1] at e2; cases e2
      obtain ⟨ob2, hob2, xs, ex, hz, hd⟩ := hO2.2.2.1
      subst ex
      split at q
      · rename_i hlt
        have hl : xs.length < sizeLine := by rw [hd.length, sizeL]; exact hlt
        refine ⟨p, xs, v, rfl, rfl, hob2, hl, ?_⟩
        exact q σ Hs1 _ s1 (o1.write h2 e1 ⟨xs ++ [v], rfl, by rw [List.length_append]; exact hl, hd.append (.one d1)⟩)
      · exact q.elim
    · exact q.elim
  · exact h.elim
/-! ### what is put into dicts -/
omit [Tables] in
theorem keyB_of {d : D} (h : keyB d = true) : ∃ k, d = kD k := by
  cases d with
  | int i => exact ⟨.inl i, rfl⟩
  | str x => exact ⟨.inr x, rfl⟩
  | _ => cases h
omit [Tables] in
theorem keysB_of : ∀ {ds : List D}, ds.all keyB = true → ∃ ks : List Key, ds = ks.map kD
  | [], _ => ⟨[], rfl⟩
  | d :: ds, h => by
    rw [List.all_cons, Bool.and_eq_true] at h
    obtain ⟨k, rfl⟩ := keyB_of h.1
    obtain ⟨ks, rfl⟩ := keysB_of h.2
    exact ⟨k :: ks, rfl⟩
omit [Tables] in
theorem okKey_K {d : D} (h : okKey false d = true) : ∃ k, d = kD k := keyB_of h
omit [Tables] in
theorem okKey_T {d : D} (h : okKey true d = true) : ∃ k, d = kDs k := by
  cases d with
  | tuple ds => obtain ⟨ks, rfl⟩ := keysB_of (show ds.all keyB = true from h); exact ⟨ks, rfl⟩
  | _ => cases h
omit [Tables] in
theorem eqv_kD (a b : Key) : PyData.eqv (kD a) (kD b) = decide (a = b) := by
  cases a with
  | inl i => cases b with
    | inl j => rw [kD, kD, PyData.eqv, Bool.beq_eq_decide_eq]; simp
    | inr y => simp [kD, PyData.eqv]
  | inr x => cases b with
    | inl j => simp [kD, PyData.eqv]
    | inr y =>
      rw [kD, kD, PyData.eqv, Bool.eq_iff_iff, beq_iff_eq, decide_eq_true_eq]
      simp
omit [Tables] in
theorem eqv_kDs (a b : List Key) : PyData.eqv (kDs a) (kDs b) = decide (a = b) := by
  unfold kDs
  rw [PyData.eqv]
  induction a generalizing b with
  | nil => cases b <;> simp [PyData.eqvAll]
  | cons x xs ih =>
    cases b with
    | nil => simp [PyData.eqvAll]
    | cons y ys =>
      rw [List.map_cons, List.map_cons, PyData.eqvAll, eqv_kD, ih ys]
      by_cases h : x = y <;> simp [h]
def RelL (H : Hp) : Option V → Option D → Prop
  | some v, some d => Dq H v d
  | none, none => True
  | _, _ => False
omit [Tables] in
theorem DqK.look {H : Hp} {ks : List (Key × V)} {kvs : List (D × D)} (k : Key) (h : DqK H ks kvs) : RelL H (valV ks k) (look kvs (kD k)) := by
  match ks, kvs, h with
  | _, _, .nil => exact trivial
  | _, _, .cons (k := k') (v := v) (ks := ks) (d := d) (kvs := kvs) hv r =>
    have ih := DqK.look k r
    unfold PI.look at ih ⊢
    by_cases e : k' = k
    · rw [valV_pos e, List.find?_cons]
      simp only [eqv_kD, decide_eq_true e]
      exact hv
    · rw [valV_neg e, List.find?_cons]
      simp only [eqv_kD, decide_eq_false e]
      exact ih
omit [Tables] in
theorem DqT.look {H : Hp} {ks : List (List Key × V)} {kvs : List (D × D)} (k : List Key) (h : DqT H ks kvs) : RelL H (valV ks k) (look kvs (kDs k)) := by
  match ks, kvs, h with
  | _, _, .nil => exact trivial
  | _, _, .cons (k := k') (v := v) (ks := ks) (d := d) (kvs := kvs) z hv r =>
    have ih := DqT.look k r
    unfold PI.look at ih ⊢
    by_cases e : k' = k
    · rw [valV_pos e, List.find?_cons]
      simp only [eqv_kDs, decide_eq_true e]
      exact hv
    · rw [valV_neg e, List.find?_cons]
      simp only [eqv_kDs, decide_eq_false e]
      exact ih
omit [Tables] in
theorem DqK.any {H : Hp} {ks : List (Key × V)} {kvs : List (D × D)} (k : Key) (h : DqK H ks kvs) : (ks.any fun p => decide (p.1 = k)) = kvs.any fun p => PyData.eqv p.1 (kD k) := by
  match ks, kvs, h with
  | _, _, .nil => rfl
  | _, _, .cons hv r => rw [List.any_cons, List.any_cons, DqK.any k r, eqv_kD]
omit [Tables] in
theorem DqT.any {H : Hp} {ks : List (List Key × V)} {kvs : List (D × D)} (k : List Key) (h : DqT H ks kvs) : (ks.any fun p => decide (p.1 = k)) = kvs.any fun p => PyData.eqv p.1 (kDs k) := by
  match ks, kvs, h with
  | _, _, .nil => rfl
  | _, _, .cons z hv r => rw [List.any_cons, List.any_cons, DqT.any k r, eqv_kDs]
omit [Tables] in
theorem DqK.repl {H : Hp} {ks : List (Key × V)} {kvs : List (D × D)} (k : Key) {v : V} {d : D} (hd : Dq H v d) (h : DqK H ks kvs) : DqK H (ks.map fun p => if p.1 = k then (p.1, v) else p) (kvs.map fun p => if PyData.eqv p.1 (kD k) = true then (p.1, d) else p) := by
  match ks, kvs, h with
  | _, _, .nil => exact .nil
  | _, _, .cons (k := k') hv r =>
    have ih := DqK.repl k hd r
    rw [List.map_cons, List.map_cons]
    by_cases e : k' = k
    · rw [if_pos e, if_pos (by rw [eqv_kD]; exact decide_eq_true e)]; exact .cons hd ih
    · rw [if_neg e, if_neg (by rw [eqv_kD]; simpa using e)]; exact .cons hv ih
omit [Tables] in
theorem DqT.repl {H : Hp} {ks : List (List Key × V)} {kvs : List (D × D)} (k : List Key) {v : V} {d : D} (hd : Dq H v d) (h : DqT H ks kvs) : DqT H (ks.map fun p => if p.1 = k then (p.1, v) else p) (kvs.map fun p => if PyData.eqv p.1 (kDs k) = true then (p.1, d) else p) := by
  match ks, kvs, h with
  | _, _, .nil => exact .nil
  | _, _, .cons (k := k') z hv r =>
    have ih := DqT.repl k hd r
    rw [List.map_cons, List.map_cons]
    by_cases e : k' = k
    · rw [if_pos e, if_pos (by rw [eqv_kDs]; exact decide_eq_true e)]; exact .cons z hd ih
    · rw [if_neg e, if_neg (by rw [eqv_kDs]; simpa using e)]; exact .cons z hv ih
omit [Tables] in
theorem DqK.snoc {H : Hp} {ks : List (Key × V)} {kvs : List (D × D)} {k : Key} {v : V} {d : D} (hd : Dq H v d) (h : DqK H ks kvs) : DqK H (ks ++ [(k, v)]) (kvs ++ [(kD k, d)]) := by
  match ks, kvs, h with
  | _, _, .nil => exact .cons hd .nil
  | _, _, .cons hv r => exact .cons hv (DqK.snoc hd r)
omit [Tables] in
theorem DqT.snoc {H : Hp} {ks : List (List Key × V)} {kvs : List (D × D)} {k : List Key} {v : V} {d : D} (z : k.length ≤ sizeLine) (hd : Dq H v d) (h : DqT H ks kvs) : DqT H (ks ++ [(k, v)]) (kvs ++ [(kDs k, d)]) := by
  match ks, kvs, h with
  | _, _, .nil => exact .cons z hd .nil
  | _, _, .cons z' hv r => exact .cons z' hv (DqT.snoc z hd r)
omit [Tables] in
theorem DqK.put {H : Hp} {ks : List (Key × V)} {kvs : List (D × D)} (k : Key) {v : V} {d : D} (hd : Dq H v d) (h : DqK H ks kvs) : DqK H (putK ks k v) (putD kvs (kD k) d) := by
  unfold putK putD
  rw [h.any k]
  split
  · exact h.repl k hd
  · exact h.snoc hd
omit [Tables] in
theorem DqT.put {H : Hp} {ks : List (List Key × V)} {kvs : List (D × D)} (k : List Key) {v : V} {d : D} (z : k.length ≤ sizeLine) (hd : Dq H v d) (h : DqT H ks kvs) : DqT H (putK ks k v) (putD kvs (kDs k) d) := by
  unfold putK putD
  rw [h.any k]
  split
  · exact h.repl k hd
  · exact h.snoc z hd
omit [Tables] in
theorem kVs_of {H : Hp} : ∀ {k : List Key} {xs : List V}, DqAll H xs (k.map kD) → xs = k.map kV
  | [], _, .nil => rfl
  | k :: ks, _, .cons h r => by
    rw [List.map_cons, kVs_of r]
    congr 1
    cases k with
    | inl i => cases h; rfl
    | inr x => cases h; rfl
omit [Tables] in
theorem kV_of {H : Hp} {k : Key} {v : V} (h : Dq H v (kD k)) : v = kV k := by
  cases k with
  | inl i => cases h; rfl
  | inr x => cases h; rfl
omit [Tables] in
/-- a key that is a tuple -/
theorem kT_of {H : Hp} {k : List Key} {v : V} (h : Dq H v (kDs k)) : ∃ b, v = .ref b ∧ H b = some (.tup (k.map kV)) ∧ k.length ≤ sizeLine := by
  cases h with
  | tup h1 h2 h3 =>
    have e := kVs_of h3
    subst e
    exact ⟨_, rfl, h1, by rwa [List.length_map] at h2⟩
omit [Tables] in
theorem isOwnC_inv {o : Option (Option MV)} (h : isOwnC o = true) : ∃ k c, o = some (some (.ow k c)) := by
  unfold isOwnC at h
  split at h
  · exact ⟨_, _, rfl⟩
  · exact ⟨_, _, rfl⟩
  · cases h
def rSet2 : TSet := fun o i v H Q => rSetL o i v H Q ∨ ∃ a H', o = .ref a ∧ DPut H a i v H' ∧ Q H'
omit [Tables] in
theorem set_2 (hu : X.A.units + 1 < cLine) : PSet X rSet2 := by
  intro pins s σ H o i v ov iv u Q I ro ri rv h
  rcases h with h | ⟨a, H', eo, g, q⟩
  · exact set_list pins s σ H o i v ov iv u Q I ro ri rv h
  · subst eo
    cases (show ov = Value.ref a from ro)
    exact d_setItem hu I g ri rv fun s' I' => ⟨H', I', q⟩
theorem gs_put (hu : X.A.units + 1 < cLine) (i : Nat) {o k a : Expr} {tpos : Pos} (ho : PE X o (tVar i)) (hk : GE X E k fb) (ha : GE X E a fa)
    (hasg : ∀ v, assign (.Subscript o k tpos) X.env v = (do
      let ov ← holding [v] (eval o X.env)
      let iv ← holding [v, ov] (eval k X.env)
      standAt tpos
      holding [v, ov, iv] (setItem ov iv v)
      release [v, ov, iv] []) := by intro _; rfl)
    (hs : swapsWithSole [.Subscript o k tpos] a pos.line X.env = pure false := by rfl) (hw : swappedStores [.Subscript o k tpos] a X.env = pure none := by rfl)
    (h1 : (assignEach [.Subscript o k tpos] X.env).map (·.2) = [assign (.Subscript o k tpos) X.env] := by rfl) : GS X E (.Assign [.Subscript o k tpos] a pos) (sPut i fb fa) := by
  refine PS.imp (ps_asg (ge_fz ha) (pg_sub ho hk (set_2 hu) hasg) hs hw h1) fun De σ H ⟨S, Hs, env, ok, h⟩ => ?_
  unfold sPut at h
  refine fI.mono (bindL ok h) fun v H1 ⟨Hs1, y, s1, o1, d1, q⟩ => ?_
  split at q
  · rename_i hown
    obtain ⟨k0, c0, hown⟩ := isOwnC_inv hown
    obtain ⟨p, e1, hO⟩ := o1.slot i _ hown
    refine ⟨.ref p, e1, ?_⟩
    refine tI.mono (bindE o1 q) fun w H2 ⟨Hs2, z, s2, o2, r2, q⟩ => ?_
    obtain ⟨z1, e2⟩ := z
    simp only at q
    split at q
    · rename_i z0 r0 j b ds hz
      split at q
      · rename_i n hn
        obtain ⟨p2, e3, hO2⟩ := o2.slot i _ hz
        rw [e1] at e3; cases e3
        obtain ⟨ob2, hob2, xs, ex, hsz, hd⟩ := hO2.2.2.1
        subst ex
        cases (show Dq Hs2 w (.int j) from r2)
        have hn' : L2.ixN xs.length j = some n := by rw [hd.length]; exact hn
        refine .inl ⟨p, xs, j, n, rfl, rfl, hob2, hn', ?_⟩
        exact q σ Hs2 _ (s1.trans s2) (o2.write hz e1 ⟨xs.set n v, rfl, by rw [List.length_set]; exact hsz, hd.set (d1.mono s2) n⟩)
      · exact q.elim
    · rename_i d t kvs hz
      split at q
      · rename_i hk
        obtain ⟨p2, e3, hO2⟩ := o2.slot i _ hz
        rw [e1] at e3; cases e3
        have hlt : kvs.length < sizeLine := by rw [sizeL]; exact hk.2
        cases t with
        | false =>
          obtain ⟨k, rfl⟩ := okKey_K hk.1
          obtain ⟨ob2, hob2, ks, ex, hsz, hd⟩ := hO2.2.2.1
          subst ex
          have hw : w = kV k := kV_of r2
          refine .inr ⟨p, _, rfl, .inl ⟨ks, k, hob2, hw, by rw [hd.length]; exact hlt, rfl⟩, ?_⟩
          exact q σ Hs2 _ (s1.trans s2) (o2.write hz e1 ⟨putK ks k v, rfl, by have := length_putK ks k v; rw [hd.length] at this; omega, hd.put k (d1.mono s2)⟩)
        | true =>
          obtain ⟨k, rfl⟩ := okKey_T hk.1
          obtain ⟨ob2, hob2, ks, ex, hsz, hd⟩ := hO2.2.2.1
          subst ex
          obtain ⟨b, rfl, hb, hz3⟩ := kT_of (show Dq Hs2 w (kDs k) from r2)
          refine .inr ⟨p, _, rfl, .inr ⟨ks, k, b, hob2, rfl, o2.sub _ _ hb, by rw [hd.length]; exact hlt, rfl⟩, ?_⟩
          exact q σ Hs2 _ (s1.trans s2) (o2.write hz e1 ⟨putK ks k v, rfl, by have := length_putK ks k v; rw [hd.length] at this; omega, hd.put k hz3 (d1.mono s2)⟩)
      · exact q.elim
    · exact q.elim
  · exact q.elim
end
end PI
set_option autoImplicit false
set_option Elab.async false
set_option linter.all false
set_option maxRecDepth 100000
set_option autoImplicit false
/-! Pi5: loops, defs and their calls. -/
namespace PI
open PySem PySem.Spec PyProof.Rows L2
open R (RD_bnd)
section
variable [Tables] {X : Cx} {E : XE} {pos : Pos} {body : List Stmt} {fb : FS} {tg iter : Expr} {fi : FI} {ftg : FG} {vt : List Nat} {S : Fm} {Hs Hs' : Hp} {De : Ends}
theorem PO.lift {o : Out} (s : Same Hs Hs') (h : PO S Hs De o) : PO S Hs' De o := by
  cases o with
  | nx e => exact fun σ Hs2 H2 s2 o2 => h σ Hs2 H2 (s.trans s2) o2
  | bk e => exact fun σ Hs2 H2 s2 o2 => h σ Hs2 H2 (s.trans s2) o2
  | ct e => exact fun σ Hs2 H2 s2 o2 => h σ Hs2 H2 (s.trans s2) o2
  | rt r e => exact fun v σ Hs2 H2 s2 o2 => h v σ Hs2 H2 (s.trans s2) o2
theorem gs_for (hp : PassesOwn (model X.prog X.w) X.A X.env X.xe) (hc : X.calm = true) (hi : GI X E tg iter fi) (hg : GG X tg vt ftg) (hb : GSs X E body fb)
    (hs : ∀ x, foldedSetIterable iter X.env x = pure x := by intro _; rfl) : GS X E (.For tg iter body [] pos) (sFor fi ftg fb) := by
  refine PS.imp (ps_for hp hc hi hg hb hs) fun De σ H ⟨S, Hs, env, ok, h⟩ => ?_
  refine iI.mono (bindI ok h) fun J H1 ⟨Hs1, z, s1, ok1, hlen, src, q⟩ => ?_
  refine ⟨fun i m σ' H' => m = z.1.length - i ∧ i ≤ z.1.length ∧ ∃ Hs' env', Same Hs1 Hs' ∧ Ok S Hs' H' σ' env' ∧ (forL ftg fb (z.1.drop i) env').RD (PO S Hs De) (EC E S Hs'), ⟨z.1.length, by simp, Nat.zero_le _, Hs1, z.2, Same.refl _, ok1, q⟩, ?_⟩
  rintro i m σ' H' ⟨rfl, hi, Hs', env', s', ok', q'⟩
  by_cases hlt : i < z.1.length
  · have hd : z.1[i]? = some z.1[i] := List.getElem?_eq_getElem hlt
    rw [drop_cons hlt] at q'
    refine .inr ⟨((src i H' (s'.trans ok'.sub)).1 _ hd).1, fun σ2 H2 => ∃ Hs2 env2, Same Hs1 Hs2 ∧ Ok S Hs2 H2 σ2 env2 ∧ (forL ftg fb (z.1.drop (i + 1)) env2).RD (PO S Hs De) (EC E S Hs2), fun σ2 H2 w => ⟨_, by omega, rfl, hlt, w⟩, fun x H2 y => ?_⟩
    obtain ⟨Hs2, s2, ok2, dx⟩ := src_step src s' ok' hd y
    unfold forL at q'
    obtain ⟨e1, h1, q'⟩ := RD.inv (nox_nox _) q'
    refine ⟨S, Hs2, env', z.1[i], e1, ok2, dx, nox_ok_of h1, fun σ3 o3 _ _ => ?_⟩
    rw [RD_bnd] at q'
    refine ⟨S, Hs2, e1, o3, q'.mono (fun o ho => ?_) fun _ z => z.mono s2⟩
    cases o with
    | nx e2 => exact fun σ4 Hs4 H4 s4 o4 => ⟨Hs4, e2, (s'.trans s2).trans s4, o4, ho.mono (fun _ z => z) fun _ z => z.mono (s2.trans s4)⟩
    | ct e2 => exact fun σ4 Hs4 H4 s4 o4 => ⟨Hs4, e2, (s'.trans s2).trans s4, o4, ho.mono (fun _ z => z) fun _ z => z.mono (s2.trans s4)⟩
    | bk e2 => exact fun σ4 Hs4 H4 s4 o4 => ho σ4 Hs4 H4 (((s1.trans s').trans s2).trans s4) o4
    | rt r e2 => exact fun v σ4 Hs4 H4 s4 o4 => ho v σ4 Hs4 H4 (((s1.trans s').trans s2).trans s4) o4
  · have hi' : i = z.1.length := by omega
    subst hi'
    rw [List.drop_length] at q'
    exact .inl ⟨(src _ H' (s'.trans ok'.sub)).2 (Nat.le_refl _), q' σ' Hs' H' (s1.trans s') ok'⟩
theorem gs_while {c : Expr} {tc : FT} (n : Nat) (hp : PassesOwn (model X.prog X.w) X.A X.env X.xe) (hc : GT X E c tc) (hb : GSs X E body fb) : GS X E (.While c body [] pos) (sWhile n tc fb) := by
  refine PS.imp (ps_while hp hc hb) fun De σ H ⟨S, Hs, env, ok, h⟩ => ?_
  refine ⟨fun m σ' H' => ∃ Hs' env', Same Hs Hs' ∧ Ok S Hs' H' σ' env' ∧ (whileL tc fb m env').RD (PO S Hs De) (EC E S Hs'), ⟨n, Hs, env, Same.refl _, ok, h⟩, ?_⟩
  rintro m σ' H' ⟨Hs', env', s', ok', q⟩
  cases m with
  | zero => exact q.elim
  | succ m =>
    unfold whileL at q
    refine bI.mono (bindT ok' q) fun b H1 ⟨Hs1, e, s1, o1, q⟩ => ?_
    cases b with
    | false => exact q σ' Hs1 H1 (s'.trans s1) o1
    | true =>
      refine ⟨fun σ2 H2 => ∃ Hs2 env2, Same Hs Hs2 ∧ Ok S Hs2 H2 σ2 env2 ∧ (whileL tc fb m env2).RD (PO S Hs De) (EC E S Hs2), fun σ2 H2 w => ⟨m, Nat.lt_succ_self _, w⟩, ?_⟩
      simp only [if_true] at q
      rw [RD_bnd] at q
      refine ⟨S, Hs1, e, o1, q.mono (fun o ho => ?_) fun _ z => z⟩
      cases o with
      | nx e2 => exact fun σ4 Hs4 H4 s4 o4 => ⟨Hs4, e2, (s'.trans s1).trans s4, o4, ho.mono (fun _ z => z) fun _ z => z.mono s4⟩
      | ct e2 => exact fun σ4 Hs4 H4 s4 o4 => ⟨Hs4, e2, (s'.trans s1).trans s4, o4, ho.mono (fun _ z => z) fun _ z => z.mono s4⟩
      | bk e2 => exact fun σ4 Hs4 H4 s4 o4 => ho σ4 Hs4 H4 ((s'.trans s1).trans s4) o4
      | rt r e2 => exact fun v σ4 Hs4 H4 s4 o4 => ho v σ4 Hs4 H4 ((s'.trans s1).trans s4) o4
end
/-! ### defs -/
/-- how an exception of a mirror is meant -/
abbrev ZT := XK → XE
abbrev Z0 : ZT := fun _ => F0
def ZX (mg : Str → Option Value) : ZT := fun E c H => ∀ C, mg c = some (.ref C) → E (.ref C) none H
/-- nothing that stood apart has become shared -/
def Kept (Hs Hs' H : Hp) : Prop := ∀ b o, H b = some o → isTp o = false → Hs b = none → Hs' b = none
def ResR (Hs' H H' : Hp) (v : V) : RV → Prop
  | .sh d => Dq Hs' v d
  | .fr c => ∃ p, v = .ref p ∧ Hs' p = none ∧ Bare H p ∧ ∃ o, H' p = some o ∧ OCR Hs' c o
  | .br _ => False
  | .no => False
def spF [Tables] (Z : ZT) (F : List D → R RV) (n : Nat) : Sp := fun vs H Q E => ∃ (Hs : Hp) (ds : List D), vs.length = n ∧ Same Hs H ∧ DqAll Hs vs ds ∧ (LamX.Tabs Tables.T H ∧ NoTb Hs) ∧
  (F ds).RD (fun r => ∀ v Hs' H', Same Hs Hs' → Same Hs' H' → LamX.ExtN H H' → Kept Hs Hs' H → (LamX.Tabs Tables.T H' ∧ NoTb Hs') → ResR Hs' H H' v r → Q v H') (fun c => ∀ H', LamX.ExtN H H' → LamX.Tabs Tables.T H' → Z E c H')
/-- what must stay at a def's entry -/
def FrO (Hs H : Hp) : Hp := fun b => if Hs b = none then (match H b with
  | some (.tbl _) => none
  | o => o) else none
theorem FrO_inv {Hs H : Hp} {b : Addr} {o : HO} (h : FrO Hs H b = some o) : Hs b = none ∧ H b = some o ∧ ∀ ps, o ≠ .tbl ps := by
  unfold FrO at h
  by_cases hb : Hs b = none
  · rw [if_pos hb] at h
    refine ⟨hb, ?_, ?_⟩
    · split at h
      · cases h
      · exact h
    · intro ps e
      subst e
      split at h
      · cases h
      · rename_i hn
        exact hn ps h
  · rw [if_neg hb] at h; cases h
theorem FrO_of {Hs H : Hp} {b : Addr} {o : HO} (hb : Hs b = none) (h : H b = some o) (hx : ∀ ps, o ≠ .tbl ps) : FrO Hs H b = some o := by
  unfold FrO
  rw [if_pos hb, h]
  split
  · rename_i ps e
    cases e
    exact absurd rfl (hx ps)
  · rfl
theorem FrO_bare {Hs H : Hp} {b : Addr} (h : FrO Hs H b = none) (hb : Hs b = none) : Bare H b := by
  cases e : H b with
  | none => exact .inl e
  | some o =>
    by_cases hx : ∀ ps, o ≠ .tbl ps
    · rw [FrO_of hb e hx] at h; cases h
    · cases o with
      | tbl ps => exact .inr ⟨ps, e⟩
      | _ => exact absurd (fun ps z => by cases z) hx
/-- the first parameter a list of the caller's that changes -/
def spIO [Tables] (Z : ZT) (F : List D → List D → R (RV × List D)) (n : Nat) : Sp := fun vs H Q E => ∃ (Hs : Hp) (p : Addr) (ws : List V) (cs ds : List D) (xs : List V), vs.length = n ∧ vs = .ref p :: ws ∧ Same Hs H ∧ Hs p = none ∧ H p = some (.lst xs) ∧ xs.length ≤ sizeLine ∧ DqAll Hs xs cs ∧ DqAll Hs ws ds ∧ (LamX.Tabs Tables.T H ∧ NoTb Hs) ∧
  (F cs ds).RD (fun x => ∀ v Hs' H', Same Hs Hs' → Same Hs' H' → (∀ b o, b ≠ p → H b = some o → (∀ ps, o ≠ .tbl ps) → H' b = some o) → Kept Hs Hs' H → (LamX.Tabs Tables.T H' ∧ NoTb Hs') → (∃ xs', H' p = some (.lst xs') ∧ xs'.length ≤ sizeLine ∧ DqAll Hs' xs' x.2) → ResR Hs' H H' v x.1 → Q v H') (fun c => ∀ H', (∀ b o, b ≠ p → H b = some o → (∀ ps, o ≠ .tbl ps) → H' b = some o) → LamX.Tabs Tables.T H' → Z E c H')
section
variable [Tables] {X : Cx} {E : XE} {CX : CXT} {k : Nat} {f : Addr} {fd : FuncData} {ps : List Str} {Ex : XK} {x : Str} {p pos : Pos} {e : Expr} {es : List Expr} {Z : ZT}
theorem Ok.frame {S : Fm} {Hs Hs' H H' : Hp} {σ : St} {env : Env} (ok : Ok S Hs H σ env) (s : Same Hs Hs') (s' : Same Hs' H') (sH : LamX.ExtN H H') (kp : Kept Hs Hs' H) (tt : LamX.Tabs Tables.T H' ∧ NoTb Hs') : Ok S Hs' H' σ env := by
  refine ⟨ok.len, s', fun b o e => ⟨sH _ _ (ok.fr b o e).1 (fun ps z => ok.tb.2.1 b ps (by rw [← z]; exact e)), fun z => kp b o (ok.fr b o e).1 z ((ok.fr b o e).2 z)⟩, fun q hq => ?_, fun i m e => ?_, ok.inj, tt.1, ok.tb.2.1, tt.2⟩
  · obtain ⟨⟨o, hh, ht⟩, h2, h3⟩ := ok.io q hq
    exact ⟨⟨o, sH _ _ hh (isTp_tb ht), ht⟩, kp q o hh ht h2, h3⟩
  · have z := ok.slot i m e
    cases m with
    | sh d => obtain ⟨v, e1, e2⟩ := z; exact ⟨v, e1, e2.mono s⟩
    | ow k c =>
      obtain ⟨q, e1, hO⟩ := z
      obtain ⟨o, ho, hc⟩ := hO.2.2.1
      exact ⟨q, e1, hO.mono s (kp q o ho hc.ntp hO.1) fun o2 ho2 => sH _ _ ho2 (by rw [ho] at ho2; cases ho2; exact notX_tb hc.nx)⟩
/-- a call of a def that changes nothing of its caller's -/
theorem ge_call {F : List D → R RV} {n : Nat} {fs : List FE} (G : FnOk X.prog X.w X.K X.mg X.base CX k f fd ps (spF Z F n)) (hr : Room k X.A) (hm : X.mg x = some (.ref f)) (hk : PySem.W.keepIn X.K (.ref f) = true) (hb : Binds X.K fd ps []) (hx : Passes CX X Ex) (hz : ∀ c H', E c H' → Z Ex c H')
    (ha : GA X E (e :: es) (fArgs fs)) (hn : fs.length = n := by rfl) (hg : Gl X x := by rfl)
    (he : starEach (e :: es) X.env = (false, eval e X.env) :: starEach es X.env := by rfl) (hpl : (backTo pos (starEach es X.env)).any (·.1) = false := by rfl) (hdb : (x == ("__debug__" : Str)) = false := by decide) : GE X E (.Call (.Name x p) (e :: es) [] pos) (fCall F fs) := by
  refine PE.imp (pe_call G hr hg hm hk hb .nil hx ha hdb he hpl) fun σ H Q ⟨S, Hs, env, ok, h⟩ => ?_
  unfold fCall at h
  rw [RD_bnd] at h
  refine ⟨S, Hs, env, ok, (fArgs_len fs env h).mono (fun z ⟨hz1, hlen⟩ vs Hs1 H1 s1 o1 d1 => ?_) fun _ z => z⟩
  refine ⟨Hs1, z.1, by rw [List.append_nil, d1.length, hlen, hn], o1.sub, by rw [List.append_nil]; exact d1, ⟨o1.tb.1, o1.tb.2.2⟩, ?_⟩
  rw [RD_bnd] at hz1
  refine hz1.mono (fun r hr v Hs' H' s' sH sHH kp tt rr => ?_) fun c hc H' sH tt => hz c H' (hc H' (fun b o q => sH _ _ (o1.sub _ _ (s1 _ _ q)) fun ps z => o1.tb.2.2 b ps (by rw [← z]; exact s1 _ _ q)) (fun b o q => sH _ _ (o1.fr b o q).1 fun ps z => o1.tb.2.1 b ps (by rw [← z]; exact q)) tt)
  have o2 := o1.frame s' sH sHH kp tt
  cases r with
  | sh d => exact hr v Hs' H' (s1.trans s') o2 rr
  | fr c =>
    obtain ⟨q, e1, e2, e3, o, e4, e5⟩ := rr
    subst e1
    obtain ⟨f1, f2, f3, f4⟩ := o1.freeB e3
    exact hr _ Hs' H' (s1.trans s') o2 ⟨q, rfl, ⟨e2, f2, ⟨o, e4, e5⟩, fun _ => f3, fun z => nomatch z⟩, f4⟩
  | br j => exact hr.elim
  | no => exact hr.elim
theorem ge_callIO {F : List D → List D → R (RV × List D)} {n : Nat} {fs : List FE} {a : Expr} (i : Nat) (G : FnOk X.prog X.w X.K X.mg X.base CX k f fd ps (spIO Z F n)) (hr : Room k X.A) (hm : X.mg x = some (.ref f)) (hk : PySem.W.keepIn X.K (.ref f) = true) (hb : Binds X.K fd ps []) (hx : Passes CX X Ex) (hz : ∀ c H', E c H' → Z Ex c H')
    (h0 : PE X a (tVar i)) (ha : GA X E es (fArgs fs)) (hn : fs.length + 1 = n := by rfl) (hg : Gl X x := by rfl)
    (he : starEach (a :: es) X.env = (false, eval a X.env) :: starEach es X.env := by rfl) (hpl : (backTo pos (starEach es X.env)).any (·.1) = false := by rfl) (hdb : (x == ("__debug__" : Str)) = false := by decide) : GE X E (.Call (.Name x p) (a :: es) [] pos) (fCallIO F i fs) := by
  refine PE.imp (pe_call G hr hg hm hk hb .nil hx (pa_cons h0 ha he) hdb he hpl) fun σ H Q ⟨S, Hs, env, ok, h⟩ => ?_
  unfold fCallIO at h
  split at h
  · rename_i hown
    obtain ⟨k0, ds0, hown⟩ := isOwnL_inv hown
    obtain ⟨p, e1, hO⟩ := ok.slot i _ hown
    refine ⟨.ref p, e1, ?_⟩
    rw [RD_bnd] at h
    refine ⟨S, Hs, env, ok, (fArgs_len fs env h).mono (fun z ⟨hz1, hlen⟩ vs Hs1 H1 s1 o1 d1 => ?_) fun _ z => z⟩
    split at hz1
    · rename_i k1 cs hz2
      obtain ⟨p1, e2, hO1⟩ := o1.slot i _ hz2
      rw [e1] at e2; cases e2
      obtain ⟨h1, h2, ⟨ob, h3, xs, h4, h5, h6⟩, h7, h8⟩ := id hO1
      subst h4
      refine ⟨Hs1, p, vs, cs, z.1, xs, by rw [List.append_nil, List.length_cons, d1.length, hlen, hn], by rw [List.append_nil], o1.sub, h1, h3, h5, h6, d1, ⟨o1.tb.1, o1.tb.2.2⟩, ?_⟩
      rw [RD_bnd] at hz1
      refine hz1.mono (fun r hr v Hs' H' s' sH sHH kp tt ⟨xs', g1, g2, g3⟩ rr => ?_) fun c hc H' sH tt => hz c H' (hc H' (fun b o q => ?_) (fun b o q => ?_) tt)
      · have kp' : Hs' p = none := kp p _ h3 rfl h1
        have hle : i < z.2.length := (List.getElem?_eq_some_iff.mp hz2).1
        -- the heap with the old list, then the write
        have o2 : Ok S Hs' H' σ (z.2.set i (some (.ow k1 (.lst r.2)))) := by
          refine ⟨by rw [List.length_set]; exact o1.len, sH, fun b o e => ?_, fun q hq => ?_, fun j m e => ?_, fun a b k c k' c' q w1 w2 => ?_, tt.1, o1.tb.2.1, tt.2⟩
          · have hb := o1.fr b o e
            exact ⟨sHH b o (ne_of_none e h2) hb.1 (fun ps z => o1.tb.2.1 b ps (by rw [← z]; exact e)), fun z => kp b o hb.1 z (hb.2 z)⟩
          · obtain ⟨⟨o, hh, ht⟩, w2, w3⟩ := o1.io q hq
            refine ⟨?_, kp q o hh ht w2, w3⟩
            by_cases hqp : q = p
            · subst hqp; exact ⟨_, g1, rfl⟩
            · exact ⟨o, sHH q o hqp hh (isTp_tb ht), ht⟩
          · by_cases hj : i = j
            · subst hj
              rw [List.getElem?_set_self hle] at e; cases e
              exact ⟨p, e1, kp', h2, ⟨_, g1, xs', rfl, g2, g3⟩, h7, h8⟩
            · rw [List.getElem?_set_ne hj] at e
              have w := o1.slot j m e
              cases m with
              | sh d => obtain ⟨v, e1, e2⟩ := w; exact ⟨v, e1, e2.mono s'⟩
              | ow k c =>
                obtain ⟨q, e3, hO3⟩ := w
                obtain ⟨o, ho, hc⟩ := id hO3.2.2.1
                have hqp : q ≠ p := fun z => by subst z; exact hj (o1.inj i j _ _ _ _ _ hz2 e e1 e3)
                exact ⟨q, e3, hO3.mono s' (kp q o ho hc.ntp hO3.1) fun o2 ho2 => sHH q o2 hqp ho2 (by rw [ho] at ho2; cases ho2; exact notX_tb hc.nx)⟩
          · have key : ∀ (j : Nat) (k3 : Bool) (c3 : OC), (z.2.set i (some (.ow k1 (.lst r.2))))[j]? = some (some (.ow k3 c3)) → ∃ k4 c4, z.2[j]? = some (some (.ow k4 c4)) := fun j k3 c3 e => by
              by_cases hj : i = j
              · subst hj; exact ⟨_, _, hz2⟩
              · rw [List.getElem?_set_ne hj] at e; exact ⟨_, _, e⟩
            obtain ⟨_, _, w1⟩ := key _ _ _ w1
            obtain ⟨_, _, w2⟩ := key _ _ _ w2
            exact o1.inj a b _ _ _ _ q w1 w2
        obtain ⟨r1, r2⟩ := r
        cases r1 with
        | sh d => exact hr v Hs' H' (s1.trans s') o2 rr
        | fr c =>
          obtain ⟨q, e1', e2, e3, o, e4, e5⟩ := rr
          subst e1'
          obtain ⟨f1, f2, f3, f4⟩ := o1.freeB e3
          refine hr _ Hs' H' (s1.trans s') o2 ⟨q, rfl, ⟨e2, f2, ⟨o, e4, e5⟩, fun _ => f3, fun z => nomatch z⟩, fun j k c e w => ?_⟩
          by_cases hj : i = j
          · subst hj
            rw [e1] at w; cases w
            rcases e3 with e3 | ⟨ps, e3⟩
            · rw [h3] at e3; cases e3
            · rw [h3] at e3; cases e3
          · have e : (z.2.set i (some (.ow k1 (.lst r2))))[j]? = _ := e
            rw [List.getElem?_set_ne hj] at e; exact f4 j k c e w
        | br j => exact hr.elim
        | no => exact hr.elim
      · have e0 := o1.sub _ _ (s1 _ _ q)
        exact sH b o (fun z => by subst z; rw [hO.1] at q; cases q) e0 (fun ps z => ok.tb.2.2 b ps (by rw [← z]; exact q))
      · have e0 := o1.fr b o q
        exact sH b o (ne_of_none q h2) e0.1 (fun ps z => o1.tb.2.1 b ps (by rw [← z]; exact q))
    · exact hz1.elim
  · exact h.elim
end
section
variable [Tables] {P : Program} {w : World} {K : PySem.W.Frag} {mg : Str → Option Value} {base : Heap}
omit [Tables] in
theorem DqAll.slots {H : Hp} : ∀ {ds : List D} {vs : List V}, DqAll H vs ds → ∀ (n : Nat) (i : Nat) (m : MV), (ds.map (fun d => some (MV.sh d)) ++ List.replicate n none)[i]? = some (some m) → ∃ d v, m = .sh d ∧ (vs.map some ++ List.replicate n none)[i]? = some (some v) ∧ Dq H v d
  | _, _, .nil, n, i, m, e => by
    simp only [List.map_nil, List.nil_append, List.getElem?_replicate] at e
    split at e <;> cases e
  | _, _, .cons h r, n, 0, m, e => by
    simp at e
    subst e
    exact ⟨_, _, rfl, rfl, h⟩
  | _, _, .cons h r, n, i + 1, m, e => by
    simp only [List.map_cons, List.cons_append, List.getElem?_cons_succ] at e ⊢
    exact DqAll.slots r n i m e
/-- THE RULE: a def's promise by its body -/
theorem fn_pure {x qual : Str} {st : Stmt} {f : Addr} {fd : FuncData} {N ps : List Str} {k : Nat} {body : FS} (F : Fun K x qual st f fd) (S : FnScope N ps (defScope st))
    (h : ∀ (cdv : Value) (A : Around) (outer : List PySem.Env) (s : Shared) (H : Hp) (E : XK), Room k (A.deeper (envOfC qual (defScope st) s.heap.objs.size f cdv)) →
      GSs (cxOf CX0 P w K mg base N qual (defScope st) f cdv A outer s H E).nox F0 (defBody st) body) : FnOk P w K mg base CX0 (k + 1) f fd ps (spF Z0 (runF N.length body) ps.length) := by
  refine F.ok S (fun vs H Q E q => ?_) (fun cdv A outer s H vs Q E hr q => ⟨_, h cdv A outer s H E hr, ?_⟩)
  · obtain ⟨_, _, h1, _⟩ := q; exact h1
  · obtain ⟨Hs, ds, h1, h2, h3, ht, h4⟩ := q
    unfold runF at h4
    rw [RD_bnd] at h4
    have hlen := h3.length
    -- what stood at the entry stands
    have kept : ∀ {σ : St} {env : Env} {Hs' H' : Hp}, Same Hs Hs' → Ok ⟨FrO Hs H, fun _ => False⟩ Hs' H' σ env → LamX.ExtN H H' := fun {σ env Hs' H'} s' o' b o e hx => by
      by_cases hb : Hs b = none
      · exact (o'.fr b o (FrO_of hb e hx)).1
      · cases hh : Hs b with
        | none => exact absurd hh hb
        | some o2 =>
          have e3 := h2 b o2 hh
          rw [e] at e3; cases e3
          exact o'.sub _ _ (s' _ _ hh)
    refine ⟨⟨FrO Hs H, fun _ => False⟩, Hs, _, ⟨?_, h2, fun b o e => ⟨(FrO_inv e).2.1, fun _ => (FrO_inv e).1⟩, fun _ z => z.elim, fun i m e => ?_, fun i j k c k' c' p e1 => ?_, ht.1, fun b ps e => (FrO_inv e).2.2 ps rfl, ht.2⟩, h4.mono (fun o ho => ?_) fun c hc => ?_⟩
    · unfold L2.start
      simp [hlen]
    · obtain ⟨d, v, e1, e2, e3⟩ := h3.slots _ i m e
      subst e1
      refine ⟨v, ?_, e3⟩
      unfold L2.start
      rw [hlen]
      exact e2
    · obtain ⟨d, v, e3, _⟩ := h3.slots _ i _ e1
      cases e3
    · have fin : ∀ {v : V} {r : RV} {σ : St} {env : Env} {Hs' H' : Hp}, Same Hs Hs' → Ok ⟨FrO Hs H, fun _ => False⟩ Hs' H' σ env → ((R.ok r).RD (fun r => ∀ v Hs' H', Same Hs Hs' → Same Hs' H' → LamX.ExtN H H' → Kept Hs Hs' H → (LamX.Tabs Tables.T H' ∧ NoTb Hs') → ResR Hs' H H' v r → Q v H') (fun c => ∀ H', LamX.ExtN H H' → LamX.Tabs Tables.T H' → Z0 E c H')) →
          (ResR Hs' H H' v r) → Q v H' := fun {v r σ env Hs' H'} s' o' hq rr => by
        refine hq v Hs' H' s' o'.sub (kept s' o') (fun b o e et e2 => ?_) ⟨o'.tb.1, o'.tb.2.2⟩ rr
        exact (o'.fr b o (FrO_of e2 e (isTp_tb et))).2 et
      cases o with
      | nx e => exact fun σ Hs' H' s' o' => fin s' o' ho (.non)
      | bk e => exact ho.elim
      | ct e => exact ho.elim
      | rt r e =>
        refine fun v σ Hs' H' s' o' rr => ?_
        cases r with
        | sh d => exact fin s' o' ho rr
        | fr c =>
          obtain ⟨p, e1, hO, n⟩ := rr
          refine fin s' o' ho ⟨p, e1, hO.1, FrO_bare hO.2.1 ?_, hO.2.2.1⟩
          cases h5 : Hs p with
          | none => rfl
          | some o3 =>
            have := s' _ _ h5
            rw [hO.1] at this; cases this
        | br i => exact ho.elim
        | no => exact ho.elim
    · exact fun H' s1 s2 tt => hc H' (fun b o e hx => by
        by_cases hb : Hs b = none
        · exact s2 b o (FrO_of hb e hx)
        · cases hh : Hs b with
          | none => exact absurd hh hb
          | some o2 =>
            have e3 := h2 b o2 hh
            rw [e] at e3; cases e3
            exact s1 _ _ hh) tt
/-- what must stay, but a list of the caller's -/
def FrP (p : Addr) (Hs H : Hp) : Hp := fun b => if b = p then none else FrO Hs H b
omit [Tables] in
theorem FrP_inv {p : Addr} {Hs H : Hp} {b : Addr} {o : HO} (h : FrP p Hs H b = some o) : b ≠ p ∧ Hs b = none ∧ H b = some o ∧ ∀ ps, o ≠ .tbl ps := by
  unfold FrP at h
  by_cases hb : b = p
  · rw [if_pos hb] at h; cases h
  · rw [if_neg hb] at h; exact ⟨hb, FrO_inv h⟩
omit [Tables] in
theorem FrP_of {p : Addr} {Hs H : Hp} {b : Addr} {o : HO} (hp : b ≠ p) (hb : Hs b = none) (h : H b = some o) (hx : ∀ ps, o ≠ .tbl ps) : FrP p Hs H b = some o := by
  unfold FrP
  rw [if_neg hp]
  exact FrO_of hb h hx
/-- .. of a def whose first parameter is a list of the caller's that it changes -/
theorem fn_io {x qual : Str} {st : Stmt} {f : Addr} {fd : FuncData} {N ps : List Str} {k : Nat} {body : FS} (F : Fun K x qual st f fd) (S : FnScope N ps (defScope st))
    (h : ∀ (cdv : Value) (A : Around) (outer : List PySem.Env) (s : Shared) (H : Hp) (E : XK), Room k (A.deeper (envOfC qual (defScope st) s.heap.objs.size f cdv)) →
      GSs (cxOf CX0 P w K mg base N qual (defScope st) f cdv A outer s H E).nox F0 (defBody st) body) : FnOk P w K mg base CX0 (k + 1) f fd ps (spIO Z0 (runIO N.length body) ps.length) := by
  refine F.ok S (fun vs H Q E q => ?_) (fun cdv A outer s H vs Q E hr q => ⟨_, h cdv A outer s H E hr, ?_⟩)
  · obtain ⟨_, _, _, _, _, _, h1, _⟩ := q; exact h1
  · obtain ⟨Hs, p, ws, cs, ds, xs, h1, h1', h2, hp, hH, hsz, h3c, h3, ht, h4⟩ := q
    subst h1'
    unfold runIO at h4
    rw [RD_bnd] at h4
    have hlen := h3.length
    have hFp : FrP p Hs H p = none := if_pos rfl
    have kept : ∀ {σ : St} {env : Env} {Hs' H' : Hp}, Same Hs Hs' → Ok ⟨FrP p Hs H, fun q => q = p⟩ Hs' H' σ env → ∀ b o, b ≠ p → H b = some o → (∀ ps, o ≠ .tbl ps) → H' b = some o := fun {σ env Hs' H'} s' o' b o hb e hx => by
      by_cases hb2 : Hs b = none
      · exact (o'.fr b o (FrP_of hb hb2 e hx)).1
      · cases hh : Hs b with
        | none => exact absurd hh hb2
        | some o2 =>
          have e3 := h2 b o2 hh
          rw [e] at e3; cases e3
          exact o'.sub _ _ (s' _ _ hh)
    refine ⟨⟨FrP p Hs H, fun q => q = p⟩, Hs, _, ⟨?_, h2, fun b o e => ⟨(FrP_inv e).2.2.1, fun _ => (FrP_inv e).2.1⟩, fun q hq => ?_, fun i m e => ?_, fun i j k c k' c' q e1 e2 => ?_, ht.1, fun b ps e => (FrP_inv e).2.2.2 ps rfl, ht.2⟩, h4.mono (fun o ho => ?_) fun c hc => ?_⟩
    · unfold L2.start
      simp [hlen]
    · cases hq
      exact ⟨⟨_, hH, rfl⟩, hp, hFp⟩
    · cases i with
      | zero =>
        simp only [List.getElem?_cons_zero, Option.some.injEq] at e
        subst e
        exact ⟨p, rfl, hp, hFp, ⟨_, hH, xs, rfl, hsz, h3c⟩, fun z => (nomatch z), fun _ => rfl⟩
      | succ i =>
        rw [List.getElem?_cons_succ] at e
        obtain ⟨d, v, e1, e2, e3⟩ := h3.slots _ i m e
        subst e1
        refine ⟨v, ?_, e3⟩
        unfold L2.start
        rw [List.map_cons, List.cons_append, List.getElem?_cons_succ, List.length_cons, hlen]
        exact e2
    · have only : ∀ (j : Nat) (k : Bool) (c : OC), (some (MV.ow false (.lst cs)) :: (ds.map (fun d => some (MV.sh d)) ++ List.replicate (N.length - (ds.length + 1)) none))[j]? = some (some (.ow k c)) → j = 0 := fun j k c e => by
        cases j with
        | zero => rfl
        | succ j =>
          rw [List.getElem?_cons_succ] at e
          obtain ⟨d, v, e3, _⟩ := h3.slots _ j _ e
          cases e3
      exact fun _ _ => (only _ _ _ e1).trans (only _ _ _ e2).symm
    · have fin : ∀ {v : V} {r : RV} {σ : St} {env : Env} {Hs' H' : Hp} {cs' : List D}, Same Hs Hs' → Ok ⟨FrP p Hs H, fun q => q = p⟩ Hs' H' σ env → env[0]? = some (some (.ow false (.lst cs'))) →
          ((R.ok (r, cs')).RD (fun x => ∀ v Hs' H', Same Hs Hs' → Same Hs' H' → (∀ b o, b ≠ p → H b = some o → (∀ ps, o ≠ .tbl ps) → H' b = some o) → Kept Hs Hs' H → (LamX.Tabs Tables.T H' ∧ NoTb Hs') → (∃ xs', H' p = some (.lst xs') ∧ xs'.length ≤ sizeLine ∧ DqAll Hs' xs' x.2) → ResR Hs' H H' v x.1 → Q v H') (fun c => ∀ H', (∀ b o, b ≠ p → H b = some o → (∀ ps, o ≠ .tbl ps) → H' b = some o) → LamX.Tabs Tables.T H' → Z0 E c H')) →
          (ResR Hs' H H' v r) → Q v H' := fun {v r σ env Hs' H' cs'} s' o' hz hq rr => by
        obtain ⟨q0, _, hO⟩ := o'.slot 0 _ hz
        have hq0 : q0 = p := hO.2.2.2.2 rfl
        subst hq0
        obtain ⟨_, g1, xs', g2, g3, g4⟩ := hO.2.2.1
        subst g2
        refine hq v Hs' H' s' o'.sub (kept s' o') (fun b o e et e2 => ?_) ⟨o'.tb.1, o'.tb.2.2⟩ ⟨xs', g1, g3, g4⟩ rr
        by_cases hb : b = q0
        · subst hb; exact hO.1
        · exact (o'.fr b o (FrP_of hb e2 e (isTp_tb et))).2 et
      cases o with
      | nx e =>
        refine fun σ Hs' H' s' o' => ?_
        simp only at ho
        split at ho
        · rename_i cs' hz
          exact fin s' o' hz ho (.non)
        · exact ho.elim
      | bk e => exact ho.elim
      | ct e => exact ho.elim
      | rt r e =>
        refine fun v σ Hs' H' s' o' rr => ?_
        simp only at ho
        split at ho
        · rename_i cs' hz
          cases r with
          | sh d => exact fin s' o' hz ho rr
          | fr c =>
            obtain ⟨q, e1, hO, n⟩ := rr
            have hqp : q ≠ p := fun z => hO.2.2.2.1 rfl z
            refine fin s' o' hz ho ⟨q, e1, hO.1, FrO_bare (Hs := Hs) ?_ ?_, hO.2.2.1⟩
            · have := hO.2.1
              have : FrP p Hs H q = none := this
              unfold FrP at this
              rw [if_neg hqp] at this; exact this
            · cases h5 : Hs q with
              | none => rfl
              | some o3 =>
                have := s' _ _ h5
                rw [hO.1] at this; cases this
          | br i => exact ho.elim
          | no => exact ho.elim
        · exact ho.elim
    · exact fun H' s1 s2 tt => hc H' (fun b o hbp e hx => by
        by_cases hb : Hs b = none
        · exact s2 b o (FrP_of hbp hb e hx)
        · cases hh : Hs b with
          | none => exact absurd hh hb
          | some o2 =>
            have e3 := h2 b o2 hh
            rw [e] at e3; cases e3
            exact s1 _ _ hh) tt
end
end PI
set_option autoImplicit false
set_option Elab.async false
set_option linter.all false
set_option maxRecDepth 100000
set_option autoImplicit false
/-! Pi6: operations by their data. -/
namespace PI
open PySem PySem.Spec PyProof.Rows L2
open R (RD_bnd)
/-! ### what they are -/
def addD : D → D → R RV
  | .int i, .int j => .ok (.sh (.int (i + j)))
  | .list xs, .list ys => if xs.length + ys.length ≤ 16777216 then .ok (.fr (.lst (xs ++ ys))) else .bad
  | .tuple xs, .tuple ys => if xs.length + ys.length ≤ 16777216 then .ok (.sh (.tuple (xs ++ ys))) else .bad
  | .str x, .str y => if x.length + y.length ≤ 16777216 then .ok (.sh (.str (x ++ y))) else .bad
  | _, _ => .bad
def subD : D → D → R RV
  | .int i, .int j => .ok (.sh (.int (i - j)))
  | _, _ => .bad
def smallI (i : Int) : Bool := decide (i.natAbs < 18446744073709551616)
def mulD : D → D → R RV
  | .int i, .int j => if smallI i || smallI j then .ok (.sh (.int (i * j))) else .bad
  | .tuple xs, .int k => if -1000 ≤ k ∧ k ≤ 1000 ∧ xs.length ≤ 1000 then .ok (.sh (.tuple (List.replicate k.toNat xs).flatten)) else .bad
  | .list xs, .int k => if 0 ≤ k ∧ k ≤ 1000 ∧ xs.length ≤ 1000 then .ok (.fr (.lst (List.replicate k.toNat xs).flatten)) else .bad
  | _, _ => .bad
def fdivD : D → D → R RV
  | .int i, .int j => if j ≠ 0 ∧ j.natAbs < 1073741824 then .ok (.sh (.int (i.fdiv j))) else .bad
  | _, _ => .bad
def modD : D → D → R RV
  | .int i, .int j => if j ≠ 0 then .ok (.sh (.int (i.fmod j))) else .bad
  | _, _ => .bad
def powD : D → D → R RV
  | .int i, .int j => if 0 ≤ j ∧ j ≤ 1000000 ∧ i.natAbs < 2 ^ 64 then .ok (.sh (.int (i ^ j.toNat))) else .bad
  | _, _ => .bad
def negD : D → R RV
  | .int i => .ok (.sh (.int (-i)))
  | _ => .bad
def noNone : D → Bool
  | .none => false
  | _ => true
/-- data that can be ordered -/
def ltOk (d e : D) : Bool := PySem.W.alike d e && d.plain && e.plain && noNone d && decide (min d.depth e.depth ≤ 60)
def cmpD (p : Int → Int → Bool) (q : D → D → Bool) : D → D → R RV
  | .int i, .int j => .ok (.sh (.bool (p i j)))
  | d, e => if ltOk d e = true then .ok (.sh (.bool (q d e))) else .bad
abbrev ltD := cmpD (fun i j => decide (i < j)) fun d e => PySem.W.dataLt d e
abbrev leD := cmpD (fun i j => decide (i ≤ j)) fun d e => !PySem.W.dataLt e d
abbrev gtD := cmpD (fun i j => decide (j < i)) fun d e => PySem.W.dataLt e d
abbrev geD := cmpD (fun i j => decide (j ≤ i)) fun d e => !PySem.W.dataLt d e
def eqOk : D → D → Bool
  | .list _, .list [] => true
  | .tuple _, .tuple [] => true
  | d, e => d.plain && e.plain && decide (min d.depth e.depth ≤ 60)
theorem eqOk_of {d e : D} (h1 : d.plain = true) (h2 : e.plain = true) (h3 : min d.depth e.depth ≤ 60) : eqOk d e = true := by
  unfold eqOk
  split
  · rfl
  · rfl
  · rw [h1, h2, decide_eq_true h3]; rfl
def eqD (d e : D) : R RV := if eqOk d e = true then .ok (.sh (.bool (PyData.eqv d e))) else .bad
def neD (d e : D) : R RV := if eqOk d e = true then .ok (.sh (.bool (!PyData.eqv d e))) else .bad
/-- is None, is True, is False: the right side written -/
def isNoneD : D → Bool
  | .none => true
  | _ => false
def isD : D → D → R RV
  | d, .none => .ok (.sh (.bool (isNoneD d)))
  | .bool a, .bool b => .ok (.sh (.bool (decide (a = b))))
  | _, _ => .bad
def isNotD : D → D → R RV
  | d, .none => .ok (.sh (.bool (!isNoneD d)))
  | .bool a, .bool b => .ok (.sh (.bool (!decide (a = b))))
  | _, _ => .bad
/-- a dict's kind and pairs -/
def kvOf : D → Option (Bool × List (D × D))
  | .dict ((.none, .none) :: kvs) => some (true, kvs)
  | .dict kvs => some (false, kvs)
  | _ => none
def dgetD (d k : D) : R RV := match kvOf d with
  | some (t, kvs) => if okKey t k = true then (match look kvs k with
    | some v => .ok (.sh v)
    | none => .bad) else .bad
  | none => .bad
def dinD (k d : D) (b : Bool) : R RV := match kvOf d with
  | some (t, kvs) => if okKey t k = true then .ok (.sh (.bool ((look kvs k).isSome == b))) else .bad
  | none => .bad
def inD (d : D) : D → R RV
  | .dict l => dinD d (.dict l) true
  | .list xs => if PyData.depthAll xs ≤ 60 ∧ PyData.plainAll xs = true ∧ d.plain = true then .ok (.sh (.bool (xs.any fun z => PyData.eqv z d))) else .bad
  | .tuple xs => if PyData.depthAll xs ≤ 60 ∧ PyData.plainAll xs = true ∧ d.plain = true then .ok (.sh (.bool (xs.any fun z => PyData.eqv z d))) else .bad
  | _ => .bad
def notInD (d : D) : D → R RV
  | .dict l => dinD d (.dict l) false
  | .list xs => if PyData.depthAll xs ≤ 60 ∧ PyData.plainAll xs = true ∧ d.plain = true then .ok (.sh (.bool (!xs.any fun z => PyData.eqv z d))) else .bad
  | .tuple xs => if PyData.depthAll xs ≤ 60 ∧ PyData.plainAll xs = true ∧ d.plain = true then .ok (.sh (.bool (!xs.any fun z => PyData.eqv z d))) else .bad
  | _ => .bad
def atI {α : Type} (xs : List α) (i : Int) : Option α := (PI.ixN xs.length i).bind fun j => xs[j]?
def ixD : D → D → R RV
  | .dict l, k => dgetD (.dict l) k
  | .list xs, .int i => match PI.atI xs i with
    | some d => .ok (.sh d)
    | none => .bad
  | .tuple xs, .int i => match PI.atI xs i with
    | some d => .ok (.sh d)
    | none => .bad
  | _, _ => .bad
/-! ### that they are so -/
section
variable [Tables] {S : Fm} {Hs H : Hp} {σ : St} {env : Env} {Q : VK}
theorem PV.sh {d : D} {v : V} (ok : Ok S Hs H σ env) (q : PV S Hs σ Q (.sh d, env)) (h : Dq Hs v d) : Q v H := q v Hs H (Same.refl _) ok h
theorem PV.lst {ds : List D} {xs : List V} {p : Addr} (ok : Ok S Hs H σ env) (q : PV S Hs σ Q (.fr (.lst ds), env)) (h : DqAll Hs xs ds) (hz : xs.length ≤ sizeLine) (hp : H p = none) : Q (.ref p) (upd H p (.lst xs)) :=
  q _ Hs _ (Same.refl _) (ok.alloc hp) ⟨p, rfl, ok.newOwn hp ⟨xs, rfl, hz, h⟩, (ok.free hp).2.2.2⟩
theorem PV.tup {ds : List D} {xs : List V} {p : Addr} (ok : Ok S Hs H σ env) (q : PV S Hs σ Q (.sh (.tuple ds), env)) (h : DqAll Hs xs ds) (hz : xs.length ≤ sizeLine) (hp : H p = none) : Q (.ref p) (upd H p (.tup xs)) :=
  have f := (ok.free hp).1
  q _ (upd Hs p (.tup xs)) _ (same_upd f) (ok.allocS hp) (.tup upd_same hz (h.mono (same_upd f)))
end
section
variable [Tables] {X : Cx}
theorem op_addD : OpR X (binaryOp .Add) (rD addD) := by
  rintro pins s σ H x y v u Q I rx ry ⟨S, Hs, σ', env, d1, d2, r, ok, t1, t2, e, q⟩
  unfold addD at e
  split at e
  · cases e
    rw [t1.int] at rx; rw [t2.int] at ry
    exact op_add pins s σ H _ _ v u Q I rx ry ⟨_, _, rfl, rfl, PV.sh ok q (.int _)⟩
  · split at e
    · rename_i hz
      cases e
      obtain ⟨p, xs, ex, h1, h2, h3⟩ := t1.list ok.sub
      obtain ⟨p2, ys, ey, g1, g2, g3⟩ := t2.list ok.sub
      subst ex ey
      have hl : xs.length + ys.length ≤ sizeLine := by rw [h3.length, g3.length, sizeL]; exact hz
      exact op_cat pins s σ H _ _ v u Q I rx ry ⟨p, p2, xs, ys, rfl, rfl, h1, g1, hl, fun q' hq => PV.lst ok q (h3.append g3) (by rw [List.length_append]; exact hl) hq⟩
    · cases e
  · split at e
    · rename_i hz
      cases e
      obtain ⟨p, xs, ex, h1, h2, h3⟩ := t1.tuple
      obtain ⟨p2, ys, ey, g1, g2, g3⟩ := t2.tuple
      subst ex ey
      have hl : xs.length + ys.length ≤ sizeLine := by rw [h3.length, g3.length, sizeL]; exact hz
      refine op_catA pins s σ H _ _ v u Q I rx ry ⟨p, p2, xs, ys, rfl, rfl, SqT.of (ok.sub _ _ h1), SqT.of (ok.sub _ _ g1), hl, fun z => ?_, fun z z2 => ?_, fun _ _ q' hq => PV.tup ok q (h3.append g3) (by rw [List.length_append]; exact hl) hq⟩
      · subst z
        cases h3
        exact PV.sh ok q (.tup g1 g2 g3)
      · subst z2
        cases g3
        rw [List.append_nil] at q
        exact PV.sh ok q (.tup h1 h2 h3)
    · cases e
  · split at e
    · rename_i hz
      cases e
      rw [t1.str] at rx; rw [t2.str] at ry
      exact op_add_str pins s σ H _ _ v u Q I rx ry ⟨_, _, rfl, rfl, by rw [sizeL]; exact hz, PV.sh ok q (.str _)⟩
    · cases e
  · cases e
theorem op_subD : OpR X (binaryOp .Sub) (rD subD) := by
  rintro pins s σ H x y v u Q I rx ry ⟨S, Hs, σ', env, d1, d2, r, ok, t1, t2, e, q⟩
  unfold subD at e
  split at e
  · cases e
    rw [t1.int] at rx; rw [t2.int] at ry
    exact op_sub pins s σ H _ _ v u Q I rx ry ⟨_, _, rfl, rfl, PV.sh ok q (.int _)⟩
  · cases e
set_option maxHeartbeats 4000000 in
omit [Tables] in
theorem tuple_mulS (l : Addr) (items : Array Value) (n : Nat) (dd : Option Addr) (sl : Array (Option Value)) (x : Int) (u : Tok) (c0 : (decide (x < -(2 ^ 63)) || decide (x ≥ 2 ^ 63)) = false) (c1 : (items.isEmpty || x == 1) = true) :
    Meets (Builtin.«tuple.__mul__» ⟨[.ref l, .int x u], []⟩) (fun _ R s => s.heap.get? l = some { cls := .type "tuple", dict := dd, data := .seq items n, slots := sl } ∧ R (.ok (.ret (Value.ref l))) s) :=
  .of_wp fun prog w A R s h => by
    obtain ⟨hp, g, d, tk, os⟩ := s
    obtain ⟨hl, h⟩ := h
    have f1 := AutoSeq1.idx_int
    wp_walk using wpAny_loadPart' hl
    repeat (first
      | (refine wpAny_ite_false (decide_eq_false (by rw [c0]; exact Bool.false_ne_true)) ?_; wp_walk using wpAny_loadPart' hl)
      | (refine wpAny_ite_true (decide_eq_true c1) ?_; wp_walk using wpAny_loadPart' hl))
    exact ⟨_, rfl, h⟩
set_option maxHeartbeats 4000000 in
omit [Tables] in
theorem tuple_mul0 (l : Addr) (items : Array Value) (n : Nat) (dd : Option Addr) (sl : Array (Option Value)) (x : Int) (u : Tok) (c0 : (decide (x < -(2 ^ 63)) || decide (x ≥ 2 ^ 63)) = false) (c1 : (items.isEmpty || x == 1) = false) (c2 : (decide (x ≤ 0) || items.isEmpty) = true) :
    Meets (Builtin.«tuple.__mul__» ⟨[.ref l, .int x u], []⟩) (fun _ R s => s.heap.get? l = some { cls := .type "tuple", dict := dd, data := .seq items n, slots := sl } ∧
      R (.ok (.ret (Value.ref s.heap.objs.size))) { s with heap := s.heap.push { cls := Value.type "tuple", data := Data.seq #[] }, toks := s.toks }) :=
  .of_wp fun prog w A R s h => by
    obtain ⟨hp, g, d, tk, os⟩ := s
    obtain ⟨hl, h⟩ := h
    have f1 := AutoSeq1.idx_int
    have hsz : (#[] : Array Value).size ≤ sizeLine := by decide
    wp_walk using wpAny_loadPart' hl
    repeat (first
      | (refine wpAny_ite_false (decide_eq_false (by rw [c0]; exact Bool.false_ne_true)) ?_; wp_walk using wpAny_loadPart' hl)
      | (refine wpAny_ite_false (decide_eq_false (by rw [c1]; exact Bool.false_ne_true)) ?_; wp_walk using wpAny_loadPart' hl)
      | (refine wpAny_ite_true (decide_eq_true c2) ?_; wp_walk using wpAny_loadPart' hl)
      | (refine wpAny_ite_false (decide_eq_false (Nat.not_lt.mpr hsz)) ?_; wp_walk using wpAny_loadPart' hl))
    exact ⟨_, rfl, h⟩
theorem op_mulD : OpR X (binaryOp .Mult) (rD mulD) := by
  rintro pins s σ H x y v u Q I rx ry ⟨S, Hs, σ', env, d1, d2, r, ok, t1, t2, e, q⟩
  unfold mulD at e
  split at e
  · split at e
    · rename_i i j hs
      cases e
      rw [t1.int] at rx; rw [t2.int] at ry
      have hs' : CMul i j := by
        rw [Bool.or_eq_true] at hs
        unfold smallI at hs
        exact hs.elim (fun z => .inl (by have := of_decide_eq_true z; omega)) (fun z => .inr (by have := of_decide_eq_true z; omega))
      exact op_mul pins s σ H _ _ v u Q I rx ry ⟨i, j, rfl, rfl, hs', PV.sh ok q (.int _)⟩
    · cases e
  · split at e
    · rename_i ds k hs
      cases e
      obtain ⟨p, xs, ex, h1, h2, h3⟩ := t1.tuple
      rw [t2.int] at ry
      subst ex
      obtain ⟨a2, a3, a4⟩ := hs
      have c0 : (decide (k < -(2 ^ 63)) || decide (k ≥ 2 ^ 63)) = false := by
        rw [decide_eq_false (by omega), decide_eq_false (by omega)] <;> rfl
      by_cases hk : xs = [] ∨ k = 1
      · have er : (List.replicate k.toNat ds).flatten = ds := by
          rcases hk with hk | hk
          · subst hk
            cases h3
            simp
          · subst hk; simp
        rw [er] at q
        cases rx
        obtain ⟨t, rfl⟩ := ry
        obtain ⟨its, r, ⟨⟨cls, dd, data, sl⟩, ho, hc, n, hd⟩, hs⟩ := I.tuple (SqT.of (ok.sub _ _ h1))
        simp only at hc hd
        subst hc hd
        have c1 : (its.toArray.isEmpty || k == 1) = true := by
          rcases hk with hk | hk
          · subst hk; cases r; rfl
          · subst hk; simp
        refine wpAny_binaryOp_repeat_ref (T := "tuple") (U := "int") (by decide) ⟨_, ho, rfl⟩ (fun s' => typeIs_int s' k t) noFill_tuple_mul F.fills_int_mul F.slot_int_rmul repeat_tuple F.slot_int_index.lookup
          (call_meets F.slot_int_rmul (typeIs_int s k t) F.entry_int_rmul (F.args_int_rmul_2 _ _) (int_rmul_tuple k t p its.toArray n dd sl)
            ⟨ho, rfl, ⟨_, ho, rfl⟩, call_meets F.slot_tuple_mul ⟨_, ho, rfl⟩ F.entry_tuple_mul (F.args_tuple_mul_2 _ _) (tuple_mulS p its.toArray n dd sl k t c0 c1) ⟨ho, ?_⟩⟩)
        exact ⟨.ref p, H, I, rfl, PV.sh ok q (.tup h1 h2 h3)⟩
      · have hne : xs ≠ [] := fun z => hk (.inl z)
        have hk1 : k ≠ 1 := fun z => hk (.inr z)
        by_cases hk0 : k ≤ 0
        · have er : (List.replicate k.toNat ds).flatten = [] := by rw [show k.toNat = 0 by omega]; rfl
          rw [er] at q
          cases rx
          obtain ⟨t, rfl⟩ := ry
          obtain ⟨its, r, ⟨⟨cls, dd, data, sl⟩, ho, hc, n, hd⟩, hs⟩ := I.tuple (SqT.of (ok.sub _ _ h1))
          simp only at hc hd
          subst hc hd
          have hi : its.toArray.isEmpty = false := by
            cases r with
            | nil => exact absurd rfl hne
            | cons a b => rfl
          have c1 : (its.toArray.isEmpty || k == 1) = false := by
            rw [hi, Bool.false_or]
            exact beq_eq_false_iff_ne.mpr (by omega)
          have c2 : (decide (k ≤ 0) || its.toArray.isEmpty) = true := by rw [decide_eq_true hk0]; rfl
          refine wpAny_binaryOp_repeat_ref (T := "tuple") (U := "int") (by decide) ⟨_, ho, rfl⟩ (fun s' => typeIs_int s' k t) noFill_tuple_mul F.fills_int_mul F.slot_int_rmul repeat_tuple F.slot_int_index.lookup
            (call_meets F.slot_int_rmul (typeIs_int s k t) F.entry_int_rmul (F.args_int_rmul_2 _ _) (int_rmul_tuple k t p its.toArray n dd sl)
              ⟨ho, rfl, ⟨_, ho, rfl⟩, call_meets F.slot_tuple_mul ⟨_, ho, rfl⟩ F.entry_tuple_mul (F.args_tuple_mul_2 _ _) (tuple_mul0 p its.toArray n dd sl k t c0 c1 c2) ⟨ho, ?_⟩⟩)
          exact ⟨.ref s.heap.objs.size, _, I.laid (t' := s.toks) (o := .tup []) (fun b ob q => Heap.get?_push_of_some _ q) (Nat.le_refl _) ⟨Nat.zero_le _, _, .nil, IsTup.new _ _⟩, rfl, PV.tup ok q .nil (Nat.zero_le _) (I.hok.fresh (Nat.le_refl _))⟩
        · refine op_repT pins s σ H _ _ v u Q I rx ry ⟨p, k, xs, rfl, rfl, SqT.of (ok.sub _ _ h1), hne, by omega, a3, by rw [h3.length]; exact a4, fun q' hq => PV.tup ok q (h3.flat _) ?_ hq⟩
          rw [PyProof.Rows.lm_len_rep_flat, h3.length, sizeL]
          exact Nat.le_trans (Nat.mul_le_mul (show k.toNat ≤ 1000 by omega) a4) (by decide)
    · cases e
  · split at e
    · rename_i ds k hs
      cases e
      obtain ⟨p, xs, ex, h1, h2, h3⟩ := t1.list ok.sub
      rw [t2.int] at ry
      subst ex
      have hm : xs.length * k.toNat ≤ sizeLine := by
        rw [h3.length, sizeL]
        exact Nat.le_trans (Nat.mul_le_mul hs.2.2 (show k.toNat ≤ 1000 by omega)) (by decide)
      refine op_rep pins s σ H _ _ v u Q I rx ry ⟨p, k, xs, rfl, rfl, h1, by omega, by omega, hm, fun q' hq => PV.lst ok q (h3.flat _) ?_ hq⟩
      rw [PyProof.Rows.lm_len_rep_flat, Nat.mul_comm]
      exact hm
    · cases e
  · cases e
theorem op_fdivD : OpR X (binaryOp .FloorDiv) (rD fdivD) := by
  rintro pins s σ H x y v u Q I rx ry ⟨S, Hs, σ', env, d1, d2, r, ok, t1, t2, e, q⟩
  unfold fdivD at e
  split at e
  · split at e
    · rename_i hs
      cases e
      rw [t1.int] at rx; rw [t2.int] at ry
      exact op_fdivN pins s σ H _ _ v u Q I rx ry ⟨_, _, rfl, rfl, hs, PV.sh ok q (.int _)⟩
    · cases e
  · cases e
theorem op_modD : OpR X (binaryOp .Mod) (rD modD) := by
  rintro pins s σ H x y v u Q I rx ry ⟨S, Hs, σ', env, d1, d2, r, ok, t1, t2, e, q⟩
  unfold modD at e
  split at e
  · split at e
    · rename_i hs
      cases e
      rw [t1.int] at rx; rw [t2.int] at ry
      exact op_modN pins s σ H _ _ v u Q I rx ry ⟨_, _, rfl, rfl, hs, PV.sh ok q (.int _)⟩
    · cases e
  · cases e
theorem op_powD : OpR X (binaryOp .Pow) (rD powD) := by
  rintro pins s σ H x y v u Q I rx ry ⟨S, Hs, σ', env, d1, d2, r, ok, t1, t2, e, q⟩
  unfold powD at e
  split at e
  · split at e
    · rename_i hs
      cases e
      rw [t1.int] at rx; rw [t2.int] at ry
      exact op_pow pins s σ H _ _ v u Q I rx ry ⟨_, _, rfl, rfl, hs, PV.sh ok q (.int _)⟩
    · cases e
  · cases e
theorem un_negD : UnR X (unaryOp .USub) (rU1 negD) := by
  rintro pins s σ H x v Q I rx ⟨S, Hs, σ', env, d1, r, ok, t1, e, q⟩
  unfold negD at e
  split at e
  · cases e
    rw [t1.int] at rx
    exact un_neg pins s σ H _ v Q I rx ⟨_, rfl, PV.sh ok q (.int _)⟩
  · cases e
omit [Tables] in
theorem TopR.reads {pins : List (Addr × Obj)} {s : Shared} {σ : St} {Hs H : Hp} {x : V} {u : Value} {d : D} (I : Inv X pins σ H s) (sm : Same Hs H) (hp : d.plain = true) (h : TopR Hs H x d) (r : RelV x u) : ∃ as, Reads s.heap u d as := Dp.reads I d x u (TopR.dp sm hp h) r
theorem cmpR {op : CmpOp} {p : Int → Int → Bool} {f : D → D → Bool} (hu : X.A.units + 64 < cLine) (h : OpR X (compareOp op) (rI0 fun i j => .bl (p i j)))
    (hd : ∀ {s : Shared} {E : Value → Shared → Prop} {a b : Value} {da db : D} {as bs : List Addr} {Q : Value → Shared → Prop}, Reads s.heap a da as → Reads s.heap b db bs → PySem.W.alike da db = true → da ≠ .none → X.A.units + min da.depth db.depth < cLine → Q (.bool (f da db)) s → wpAny (model X.prog X.w) X.A (compareOp op a b) Q E s) :
    OpR X (compareOp op) (rD (cmpD p f)) := by
  rintro pins s σ H x y v u Q I rx ry ⟨S, Hs, σ', env, d1, d2, r, ok, t1, t2, e, q⟩
  unfold cmpD at e
  split at e
  · cases e
    rw [t1.int] at rx; rw [t2.int] at ry
    exact h pins s σ H _ _ v u Q I rx ry ⟨_, _, rfl, rfl, PV.sh ok q (.bl _)⟩
  · split at e
    · rename_i hk
      cases e
      simp only [ltOk, Bool.and_eq_true, decide_eq_true_eq] at hk
      obtain ⟨⟨⟨⟨k1, k2⟩, k3⟩, k4⟩, k5⟩ := hk
      obtain ⟨as, r1⟩ := t1.reads I ok.sub k2 rx
      obtain ⟨bs, r2⟩ := t2.reads I ok.sub k3 ry
      exact hd r1 r2 k1 (by rintro rfl; cases k4) (by omega) ⟨.bl _, H, I, rfl, PV.sh ok q (.bl _)⟩
    · cases e
theorem op_ltD (hu : X.A.units + 64 < cLine) : OpR X (compareOp .Lt) (rD ltD) := cmpR hu op_lt fun a b c d e f => PySem.W.lt_data a b c d e f
theorem op_leD (hu : X.A.units + 64 < cLine) : OpR X (compareOp .LtE) (rD leD) := cmpR hu op_le fun a b c d e f => PySem.W.le_data a b c d e f
theorem op_gtD (hu : X.A.units + 64 < cLine) : OpR X (compareOp .Gt) (rD gtD) := cmpR hu op_gt fun a b c d e f => PySem.W.gt_data a b c d e f
theorem op_geD (hu : X.A.units + 64 < cLine) : OpR X (compareOp .GtE) (rD geD) := cmpR hu op_ge fun a b c d e f => PySem.W.ge_data a b c d e f
omit [Tables] in
theorem eqv_e (xs : List D) : PyData.eqvAll xs [] = xs.isEmpty := by cases xs <;> rfl
theorem eq_both {pins : List (Addr × Obj)} {s : Shared} {σ : St} {Hs H : Hp} {σ' : St} {S : Fm} {env : Env} {x y : V} {v u : Value} {d1 d2 : D} (hu : X.A.units + 64 < cLine) (I : Inv X pins σ H s) (rx : RelV x v) (ry : RelV y u) (ok : Ok S Hs H σ' env) (t1 : TopR Hs H x d1) (t2 : TopR Hs H y d2) (hm : eqOk d1 d2 = true) :
    SeqAt.RcAt X.A s v u (PyData.eqv d1 d2) ∧ SeqAt.RcNeAt X.A s v u (!PyData.eqv d1 d2) := by
  unfold eqOk at hm
  split at hm
  · rename_i xs
    obtain ⟨p1, x1, rfl, h1, z1, k1⟩ := t1.list ok.sub
    obtain ⟨p2, x2, rfl, h2, z2, k2⟩ := t2.list ok.sub
    cases rx; cases ry
    obtain ⟨i1, r1, l1, _⟩ := I.list (SqL.of h1)
    obtain ⟨i2, r2, l2, _⟩ := I.list (SqL.of h2)
    have e2 : i2 = [] := by cases k2; cases r2; rfl
    subst e2
    have hn : i1.length = xs.length := by rw [← r1.length, k1.length]
    simp only [PyData.eqv, eqv_e]
    cases xs with
    | nil =>
      have e1 : i1 = [] := List.eq_nil_of_length_eq_zero hn
      subst e1
      have a := SeqAt.RcAt.lists (A := X.A) (e := fun _ => true) l1.isList l2.isList rfl (by omega) fun j h1 _ => absurd h1 (by simp)
      have b := SeqAt.RcNeAt.lists (A := X.A) (e := fun _ => true) l1.isList l2.isList rfl (by omega) fun j h1 _ => absurd h1 (by simp)
      exact ⟨by simpa using a, by simpa using b⟩
    | cons a as =>
      have hz : (i1.toArray.size != ([] : List Value).toArray.size) = true := by simp; intro z; rw [z] at hn; simp at hn
      exact ⟨SeqAt.RcAt.lists_lengths l1.isList l2.isList hz (by omega), SeqAt.RcNeAt.lists_lengths l1.isList l2.isList hz (by omega)⟩
  · rename_i xs
    obtain ⟨p1, x1, rfl, h1, z1, k1⟩ := t1.tuple
    obtain ⟨p2, x2, rfl, h2, z2, k2⟩ := t2.tuple
    cases rx; cases ry
    obtain ⟨i1, r1, l1, _⟩ := I.tuple (SqT.of (ok.sub _ _ h1))
    obtain ⟨i2, r2, l2, _⟩ := I.tuple (SqT.of (ok.sub _ _ h2))
    have e2 : i2 = [] := by cases k2; cases r2; rfl
    subst e2
    have hn : i1.length = xs.length := by rw [← r1.length, k1.length]
    simp only [PyData.eqv, eqv_e]
    have a := SeqAt.RcAt.tuples (A := X.A) (e := fun _ => true) (show s.heap.IsTuple p1 i1.toArray from l1) (show s.heap.IsTuple p2 ([] : List Value).toArray from l2) (by omega) fun j _ h2 => absurd h2 (by simp)
    have b := SeqAt.RcNeAt.tuples (A := X.A) (e := fun _ => true) (show s.heap.IsTuple p1 i1.toArray from l1) (show s.heap.IsTuple p2 ([] : List Value).toArray from l2) (by omega) fun j _ h2 => absurd h2 (by simp)
    cases xs with
    | nil =>
      have e1 : i1 = [] := List.eq_nil_of_length_eq_zero hn
      subst e1
      exact ⟨by simpa using a, by simpa using b⟩
    | cons c as =>
      cases i1 with
      | nil => simp at hn
      | cons b1 bs => exact ⟨by simpa using a, by simpa using b⟩
  · rw [Bool.and_eq_true, Bool.and_eq_true, decide_eq_true_iff] at hm
    obtain ⟨as, r1⟩ := t1.reads I ok.sub hm.1.1 rx
    obtain ⟨bs, r2⟩ := t2.reads I ok.sub hm.1.2 ry
    exact ⟨SeqAt.rcAt_plain r1 r2 hm.1.1 hm.1.2 (by omega), SeqAt.rcNe_plain r1 r2 hm.1.1 hm.1.2 (by omega)⟩
theorem op_eqD' (hu : X.A.units + 64 < cLine) : OpR X (compareOp .Eq) (rD PI.eqD) := by
  rintro pins s σ H x y v u Q I rx ry ⟨S, Hs, σ', env, d1, d2, r, ok, t1, t2, e, q⟩
  unfold PI.eqD at e
  split at e
  · rename_i hm
    cases e
    exact (eq_both hu I rx ry ok t1 t2 hm).1 X.prog X.w _ _ ⟨.bl _, H, I, rfl, PV.sh ok q (.bl _)⟩
  · cases e
theorem op_neD' (hu : X.A.units + 64 < cLine) : OpR X (compareOp .NotEq) (rD PI.neD) := by
  rintro pins s σ H x y v u Q I rx ry ⟨S, Hs, σ', env, d1, d2, r, ok, t1, t2, e, q⟩
  unfold PI.neD at e
  split at e
  · rename_i hm
    cases e
    exact (eq_both hu I rx ry ok t1 t2 hm).2 X.prog X.w _ _ ⟨.bl _, H, I, rfl, PV.sh ok q (.bl _)⟩
  · cases e
omit [Tables] in
theorem isNone_iff {Hs H : Hp} {x : V} {d : D} (t : TopR Hs H x d) : decide (x = .non) = isNoneD d := by
  cases d with
  | none => rw [t.non]; rfl
  | bool b => rw [t.bl]; rfl
  | int b => rw [t.int]; rfl
  | str b => rw [t.str]; rfl
  | list ds =>
    rcases t with h | ⟨p, c, o, e, _⟩
    · cases h; rfl
    · rw [e]; rfl
  | tuple ds => obtain ⟨p, xs, e, _⟩ := t.tuple; rw [e]; rfl
  | dict ds =>
    rcases t with h | ⟨p, c, o, e, _⟩
    · cases h <;> rfl
    · rw [e]; rfl
theorem op_isD : OpR X (compareOp .Is) (rD isD) := by
  rintro pins s σ H x y v u Q I rx ry ⟨S, Hs, σ', env, d1, d2, r, ok, t1, t2, e, q⟩
  unfold isD at e
  split at e
  · cases e
    rw [t2.non] at ry
    exact op_isN pins s σ H _ _ v u Q I rx ry ⟨rfl, by rw [isNone_iff t1]; exact PV.sh ok q (.bl _)⟩
  · cases e
    rw [t1.bl] at rx; rw [t2.bl] at ry
    exact op_isBl pins s σ H _ _ v u Q I rx ry ⟨_, _, rfl, rfl, PV.sh ok q (.bl _)⟩
  · cases e
theorem op_isNotD : OpR X (compareOp .IsNot) (rD isNotD) := by
  rintro pins s σ H x y v u Q I rx ry ⟨S, Hs, σ', env, d1, d2, r, ok, t1, t2, e, q⟩
  unfold isNotD at e
  split at e
  · cases e
    rw [t2.non] at ry
    exact op_notN pins s σ H _ _ v u Q I rx ry ⟨rfl, by rw [isNone_iff t1]; exact PV.sh ok q (.bl _)⟩
  · cases e
    rw [t1.bl] at rx; rw [t2.bl] at ry
    exact op_notBl pins s σ H _ _ v u Q I rx ry ⟨_, _, rfl, rfl, PV.sh ok q (.bl _)⟩
  · cases e
/-! ### dicts -/
omit [Tables] in
theorem DqK.kv {H : Hp} {kvs : List (D × D)} {ks : List (Key × V)} (h : DqK H ks kvs) : kvOf (.dict kvs) = some (false, kvs) := by
  cases h with
  | nil => rfl
  | @cons k _ _ _ _ _ _ => cases k <;> rfl
def DctR (Hs H : Hp) (p : Addr) (t : Bool) (kvs : List (D × D)) : Prop := match t with
  | false => ∃ ks, Rd H p (.dK ks) ∧ DqK Hs ks kvs
  | true => ∃ ks, Rd H p (.dT ks) ∧ DqT Hs ks kvs
omit [Tables] in
theorem TopR.dct {Hs H : Hp} {v : V} {d : D} {t : Bool} {kvs : List (D × D)} (s : Same Hs H) (h : TopR Hs H v d) (e : kvOf d = some (t, kvs)) : ∃ p, v = .ref p ∧ DctR Hs H p t kvs := by
  rcases h with h | ⟨p, c, o, rfl, ho, hc, hd⟩
  · cases h with
    | dctK h1 h2 h3 => rw [h3.kv] at e; cases e; exact ⟨_, rfl, _, .inr ⟨_, s _ _ h1⟩, h3⟩
    | dctT h1 h2 h3 => cases e; exact ⟨_, rfl, _, .inr ⟨_, s _ _ h1⟩, h3⟩
    | _ => cases e
  · cases c with
    | lst _ => subst hd; cases e
    | dct t' kvs' =>
      subst hd
      cases t' with
      | false =>
        obtain ⟨ks, rfl, h2, h3⟩ := hc
        rw [show (OC.dct false kvs').d = .dict kvs' from rfl, h3.kv] at e; cases e
        exact ⟨_, rfl, ks, .inl ho, h3⟩
      | true =>
        obtain ⟨ks, rfl, h2, h3⟩ := hc
        cases e
        exact ⟨_, rfl, ks, .inl ho, h3⟩
omit [Tables] in
theorem TopR.dq {Hs H : Hp} {v : V} {d : D} (h : TopR Hs H v d) (hd : (∀ l, d ≠ .list l) ∧ ∀ l, d ≠ .dict l) : Dq Hs v d := by
  rcases h with h | ⟨p, c, o, rfl, ho, hc, e⟩
  · exact h
  · cases c with
    | lst l => exact absurd e (hd.1 _)
    | dct t l => exact absurd e (hd.2 _)
omit [Tables] in
/-- what a dict holds at a key, in the heap -/
theorem dget_of {Hs H : Hp} {p : Addr} {t : Bool} {kvs : List (D × D)} {y : V} {k : D} (s : Same Hs H) (h : DctR Hs H p t kvs) (hk : okKey t k = true) (ty : TopR Hs H y k) : ∃ o, DGet H p y o ∧ RelL Hs o (look kvs k) := by
  cases t with
  | false =>
    obtain ⟨ks, h1, h2⟩ := h
    obtain ⟨kk, rfl⟩ := okKey_K hk
    have q : Dq Hs y (kD kk) := ty.dq ⟨fun l z => (by cases kk <;> cases z), fun l z => (by cases kk <;> cases z)⟩
    exact ⟨_, .inl ⟨ks, kk, h1, kV_of q, rfl⟩, h2.look kk⟩
  | true =>
    obtain ⟨ks, h1, h2⟩ := h
    obtain ⟨kk, rfl⟩ := okKey_T hk
    have q : Dq Hs y (kDs kk) := ty.dq ⟨fun l z => (by cases z), fun l z => (by cases z)⟩
    obtain ⟨b, e, hb, hz⟩ := kT_of q
    exact ⟨_, .inr ⟨ks, kk, b, h1, e, s _ _ hb, rfl⟩, h2.look kk⟩
omit [Tables] in
theorem RelL.some_of {H : Hp} {o : Option V} {d : D} (h : RelL H o (some d)) : ∃ v, o = some v ∧ Dq H v d := by
  cases o with
  | none => exact h.elim
  | some v => exact ⟨v, rfl, h⟩
omit [Tables] in
theorem RelL.isSome {H : Hp} {o : Option V} {d : Option D} (h : RelL H o d) : o.isSome = d.isSome := by
  cases o with
  | none => cases d with
    | none => rfl
    | some _ => exact h.elim
  | some v => cases d with
    | none => exact h.elim
    | some _ => rfl
theorem in_dct {pins : List (Addr × Obj)} {s : Shared} {σ : St} {H : Hp} {x y : V} {v u : Value} {Q : VK} (hu : X.A.units + 64 < cLine) (I : Inv X pins σ H s) (rx : RelV x v) (ry : RelV y u) {b : Bool} {S : Fm} {Hs : Hp} {σ' : St} {env : Env} {d1 d2 : D} {r : RV} (ok : Ok S Hs H σ' env) (t1 : TopR Hs H x d1) (t2 : TopR Hs H y d2) (e : dinD d1 d2 b = .ok r) (q : PV S Hs σ' Q (r, env)) :
    wpAny (model X.prog X.w) X.A (compareOp (if b then .In else .NotIn) v u) (EP X pins σ Q) X.xe s := by
  unfold dinD at e
  split at e
  · rename_i t kvs hkv
    split at e
    · rename_i hk
      cases e
      obtain ⟨p, rfl, hd⟩ := t2.dct ok.sub hkv
      obtain ⟨o, g, rel⟩ := dget_of ok.sub hd hk t1
      cases (show u = Value.ref p from ry)
      have hs := rel.isSome
      cases b with
      | true => exact d_in (by omega) I g rx fun s' I' => ⟨.bl _, H, I', rfl, by rw [hs]; have := PV.sh (v := .bl ((look kvs d1).isSome == true)) ok q (.bl _); simpa using this⟩
      | false => exact d_notIn (by omega) I g rx fun s' I' => ⟨.bl _, H, I', rfl, by rw [hs]; have := PV.sh (v := .bl ((look kvs d1).isSome == false)) ok q (.bl _); cases h : (look kvs d1).isSome <;> simpa [h] using this⟩
    · cases e
  · cases e
theorem op_inD' (hu : X.A.units + 65 < cLine) : OpR X (compareOp .In) (rD PI.inD) := by
  rintro pins s σ H x y v u Q I rx ry ⟨S, Hs, σ', env, d1, d2, r, ok, t1, t2, e, q⟩
  unfold PI.inD at e
  split at e
  · exact in_dct (b := true) (by omega) I rx ry ok t1 t2 e q
  · split at e
    · rename_i hm
      cases e
      obtain ⟨as, r1⟩ := t1.reads I ok.sub hm.2.2 rx
      obtain ⟨bs, r2⟩ := t2.reads I ok.sub (by simpa [PyData.plain] using hm.2.1) ry
      exact SeqAt.in_list_data r2 r1 hm.2.1 hm.2.2 (by omega) ⟨.bl _, H, I, rfl, PV.sh ok q (.bl _)⟩
    · cases e
  · split at e
    · rename_i hm
      cases e
      obtain ⟨as, r1⟩ := t1.reads I ok.sub hm.2.2 rx
      obtain ⟨bs, r2⟩ := t2.reads I ok.sub (by simpa [PyData.plain] using hm.2.1) ry
      exact SeqAt.in_tuple_data r2 r1 hm.2.1 hm.2.2 (by omega) ⟨.bl _, H, I, rfl, PV.sh ok q (.bl _)⟩
    · cases e
  · cases e
theorem op_notInD' (hu : X.A.units + 65 < cLine) : OpR X (compareOp .NotIn) (rD PI.notInD) := by
  rintro pins s σ H x y v u Q I rx ry ⟨S, Hs, σ', env, d1, d2, r, ok, t1, t2, e, q⟩
  unfold PI.notInD at e
  split at e
  · exact in_dct (b := false) (by omega) I rx ry ok t1 t2 e q
  · split at e
    · rename_i hm
      cases e
      obtain ⟨as, r1⟩ := t1.reads I ok.sub hm.2.2 rx
      obtain ⟨bs, r2⟩ := t2.reads I ok.sub (by simpa [PyData.plain] using hm.2.1) ry
      exact SeqAt.notIn_list_data r2 r1 hm.2.1 hm.2.2 (by omega) ⟨.bl _, H, I, rfl, PV.sh ok q (.bl _)⟩
    · cases e
  · split at e
    · rename_i hm
      cases e
      obtain ⟨as, r1⟩ := t1.reads I ok.sub hm.2.2 rx
      obtain ⟨bs, r2⟩ := t2.reads I ok.sub (by simpa [PyData.plain] using hm.2.1) ry
      exact SeqAt.notIn_tuple_data r2 r1 hm.2.1 hm.2.2 (by omega) ⟨.bl _, H, I, rfl, PV.sh ok q (.bl _)⟩
    · cases e
  · cases e
omit [Tables] in
theorem atI_dq {Hs : Hp} {xs : List V} {ds : List D} {i : Int} {d : D} (h : DqAll Hs xs ds) (e : PI.atI ds i = some d) : ∃ v, L2.atI xs i = some v ∧ Dq Hs v d := by
  unfold PI.atI at e
  unfold L2.atI
  rw [h.length]
  show ∃ v, ((PI.ixN ds.length i).bind fun j => xs[j]?) = some v ∧ _
  cases hj : PI.ixN ds.length i with
  | none => rw [hj] at e; cases e
  | some j =>
    rw [hj] at e
    exact h.get e
theorem ix_D (hu : X.A.units + 64 < cLine) : IxR X (rD ixD) := by
  rintro ev es pins s σ H x y v u Q I rx ry ⟨S, Hs, σ', env, d1, d2, r, ok, t1, t2, e, q⟩ hsub
  unfold ixD at e
  split at e
  · rename_i l kd
    unfold dgetD at e
    split at e
    · rename_i t kvs hkv
      split at e
      · rename_i hk
        split at e
        · rename_i w hw
          cases e
          obtain ⟨p, rfl, hd⟩ := t1.dct ok.sub hkv
          obtain ⟨o, g, rel⟩ := dget_of ok.sub hd hk t2
          rw [hw] at rel
          obtain ⟨w', rfl, hw'⟩ := rel.some_of
          cases (show v = Value.ref p from rx)
          have hT := dict_typeIs I g
          unfold subscriptTail
          refine wpAny_bind ?_
          rw [getitemInPython_of_ne hT.not_modules]
          refine wpAny_bind (wpAny_specialOf hT (PySem.slot_dict_getitem.lookup) ?_)
          have fin : wpAny (model X.prog X.w) X.A (subscripted es false (.ref p) u) (fun r s₃ => wpAny (model X.prog X.w) X.A (letTemporaryGo ev (.ref p) r >>= fun _ => pure r) (EP X pins σ Q) X.xe s₃) X.xe s := by
            rw [hsub]
            refine wpAny_operating (d_getItem (by omega) I g ry fun r s₃ I' rr => wpAny_bind (wpAny_letTemporaryGo (wpAny_pure ⟨w', H, I', rr, PV.sh ok q hw'⟩)))
          first
            | exact wpAny_pure (wpAny_bind fin)
            | exact wpAny_bind (wpAny_pure (wpAny_bind fin))
            | exact wpAny_bind fin
        · cases e
      · cases e
    · cases e
  · split at e
    · rename_i hd
      cases e
      obtain ⟨p, xs, ex, h1, h2, h3⟩ := t1.list ok.sub
      rw [t2.int] at ry
      subst ex
      obtain ⟨w, e1, e2⟩ := atI_dq h3 hd
      exact ix_list ev es pins s σ H _ _ v u Q I rx ry ⟨p, xs, _, w, rfl, rfl, SqL.of h1, e1, PV.sh ok q e2⟩ hsub
    · cases e
  · split at e
    · rename_i hd
      cases e
      obtain ⟨p, xs, ex, h1, h2, h3⟩ := t1.tuple
      rw [t2.int] at ry
      subst ex
      obtain ⟨w, e1, e2⟩ := atI_dq h3 hd
      exact ix_tup ev es pins s σ H _ _ v u Q I rx ry ⟨p, xs, _, w, rfl, rfl, SqT.of (ok.sub _ _ h1), e1, PV.sh ok q e2⟩ hsub
    · cases e
  · cases e
end
end PI
set_option autoImplicit false
set_option Elab.async false
set_option linter.all false
set_option maxRecDepth 100000
set_option autoImplicit false
/-! Pi7: slices, built-in functions and types. -/
namespace PI
open PySem PySem.Spec PyProof.Rows L2
open R (RD_bnd)
/-! ### slices -/
/-- a slice's bound as a place among n -/
def bnd (n d : Nat) : Option Int → Nat
  | none => d
  | some v => if v < 0 then (v + n).toNat else min v.toNat n
theorem bnd_eq (n d : Nat) (o : Option Int) : HT.sIx n d o = PI.bnd n d o := by cases o <;> rfl
theorem bnd_le (n : Nat) (o : Option Int) : PI.bnd n 0 o ≤ n := by
  cases o with
  | none => exact Nat.zero_le _
  | some v =>
    simp only [PI.bnd]
    split <;> omega
theorem bnd_le' (n : Nat) (o : Option Int) : PI.bnd n n o ≤ n := by
  cases o with
  | none => exact Nat.le_refl _
  | some v =>
    simp only [PI.bnd]
    split <;> omega
def cutL {α : Type} (xs : List α) (lo hi : Option Int) : List α := (xs.drop (PI.bnd xs.length 0 lo)).take (PI.bnd xs.length xs.length hi - PI.bnd xs.length 0 lo)
theorem cutL_eq (xs : List V) (lo hi : Option Int) : cutV xs lo hi = cutL xs lo hi := by
  unfold cutV cutL
  rw [bnd_eq, bnd_eq]
theorem cutL_len {α : Type} (xs : List α) (lo hi : Option Int) : (cutL xs lo hi).length ≤ xs.length := by
  unfold cutL
  rw [List.length_take, List.length_drop]
  omega
theorem cutL_whole {α : Type} {xs : List α} {lo hi : Option Int} (h1 : PI.bnd xs.length 0 lo = 0) (h2 : PI.bnd xs.length xs.length hi = xs.length) : cutL xs lo hi = xs := by
  unfold cutL
  rw [h1, h2]
  simp
theorem DqAll.cut {H : Hp} {vs : List V} {ds : List D} (h : DqAll H vs ds) (lo hi : Option Int) : DqAll H (cutL vs lo hi) (cutL ds lo hi) := by
  unfold cutL
  rw [h.length]
  exact (h.drop _).take _
def optI : Option FE → Env → R (Option Int × Env)
  | none, env => .ok (none, env)
  | some f, env => (f env).bnd fun x => match x.1 with
    | .sh (.int i) => .ok (some i, x.2)
    | _ => .bad
def cutD (d : D) (lo hi : Option Int) : R RV := match d with
  | .list ds => .ok (.fr (.lst (cutL ds lo hi)))
  | .tuple ds => .ok (.sh (.tuple (cutL ds lo hi)))
  | _ => .bad
def fSlice (a : FE) (lo hi : Option FE) : FE := fun env => (a env).bnd fun x => (optI lo x.2).bnd fun l => (optI hi l.2).bnd fun h => (rd h.2 (hold x.1)).bnd fun d => (cutD d l.1 h.1).nox.bnd fun r => .ok (r, h.2)
def oI [Tables] (E : XE) (f : Option FE) : L2.TO := fun σ H Q => ∃ S Hs env, Ok S Hs H σ env ∧ (optI f env).RD (fun x => ∀ Hs' H', Same Hs Hs' → Ok S Hs' H' σ x.2 → Q x.1 H') (EC E S Hs)
theorem oI.mono [Tables] {E : XE} {f : Option FE} {σ : St} {H : Hp} {Q Q' : Option Int → Hp → Prop} (h : oI E f σ H Q) (i : ∀ v H, Q v H → Q' v H) : oI E f σ H Q' := by
  obtain ⟨S, Hs, env, ok, h⟩ := h
  exact ⟨S, Hs, env, ok, h.mono (fun x hx Hs' H' s o => i _ _ (hx Hs' H' s o)) fun _ z => z⟩
theorem bindO [Tables] {E : XE} {S : Fm} {Hs H : Hp} {σ : St} {env : Env} {β : Type} {f : Option FE} {k : Option Int × Env → R β} {P : β → Prop} (ok : Ok S Hs H σ env) (h : ((optI f env).bnd k).RD P (EC E S Hs)) :
    oI E f σ H fun o H1 => ∃ Hs1 e, Same Hs Hs1 ∧ Ok S Hs1 H1 σ e ∧ (k (o, e)).RD P (EC E S Hs1) := by
  rw [RD_bnd] at h
  exact ⟨S, Hs, env, ok, h.mono (fun x hx Hs' H' s o => ⟨Hs', x.2, s, o, hx.mono (fun _ z => z) fun _ z => z.mono s⟩) fun _ z => z⟩
def rSlD [Tables] (x : V) (lo hi : Option Int) (H : Hp) (Q : VK) : Prop := ∃ S Hs σ env d r, Ok S Hs H σ env ∧ TopR Hs H x d ∧ cutD d lo hi = .ok r ∧ PV S Hs σ Q (r, env)
section
variable [Tables] {X : Cx} {E : XE} {a : Expr} {fa : FE} {pos p2 : Pos}
theorem go_none : L2.PO X none (oI E none) := ⟨fun pins s σ H Q I ⟨S, Hs, env, ok, h⟩ => po_none.run pins s σ H Q I (h Hs H (Same.refl _) ok)⟩
theorem go_some {e : Expr} {fe : FE} (h : GE X E e fe) : L2.PO X (some e) (oI E (some fe)) := ⟨fun pins s σ H Q I ⟨S, Hs, env, ok, h2⟩ => (po_some h).run pins s σ H Q I (by
  unfold optI at h2
  refine tI.mono (bindE ok h2) fun v H1 ⟨Hs1, x, s1, o1, r1, q⟩ => ?_
  obtain ⟨r, e1⟩ := x
  simp only at q
  split at q
  · rename_i r0 i
    cases (show Dq Hs1 v (.int i) from r1)
    exact ⟨i, rfl, q Hs1 H1 s1 o1⟩
  · exact q.elim)⟩
theorem sl_D : SlR X rSlD := by
  rintro pins s σ H x v vl vu lo hi sl Q I rx hs pl pu ⟨S, Hs, σ', env, d, r, ok, t, e, q⟩
  unfold cutD at e
  split at e
  · cases e
    obtain ⟨p, xs, ex, h1, h2, h3⟩ := t.list ok.sub
    subst ex
    refine sl_list pins s σ H _ v vl vu lo hi sl Q I rx hs pl pu ⟨p, xs, rfl, SqL.of h1, fun q' hq => ?_⟩
    rw [cutL_eq]
    exact PV.lst ok q (h3.cut lo hi) (Nat.le_trans (cutL_len _ _ _) h2) hq
  · cases e
    obtain ⟨p, xs, ex, h1, h2, h3⟩ := t.tuple
    subst ex
    refine sl_tupA pins s σ H _ v vl vu lo hi sl Q I rx hs pl pu ⟨p, xs, rfl, SqT.of (ok.sub _ _ h1), fun ⟨w1, w2⟩ => ?_, fun _ q' hq => ?_⟩
    · rw [bnd_eq] at w1 w2
      rw [h3.length] at w1 w2
      rw [cutL_whole w1 w2] at q
      exact PV.sh ok q (.tup h1 h2 h3)
    · rw [cutL_eq]
      exact PV.tup ok q (h3.cut lo hi) (Nat.le_trans (cutL_len _ _ _) h2) hq
  · cases e
omit [Tables] in
theorem ge_slice [Tables] {lo hi : Option Expr} {fl fh : Option FE} (ha : GE X E a fa) (hl : L2.PO X lo (oI E fl)) (hh : L2.PO X hi (oI E fh)) : GE X E (.Subscript a (.Slice lo hi none p2) pos) (fSlice fa fl fh) := by
  refine PE.imp (pe_slice sl_D ha hl hh) fun σ H Q ⟨S, Hs, env, ok, h⟩ => ?_
  refine tI.mono (bindH ok h) fun v H1 ⟨Hs1, x, s1, o1, r1, q⟩ => ?_
  refine oI.mono (bindO o1 q) fun l H2 ⟨Hs2, e2, s2, o2, q⟩ => ?_
  refine oI.mono (bindO o2 q) fun u H3 ⟨Hs3, e3, s3, o3, q⟩ => ?_
  obtain ⟨d, h1, q⟩ := RD.inv (rd_nox _ _) q
  obtain ⟨r, h2, q⟩ := RD.inv (nox_nox _) q
  exact ⟨S, Hs3, σ, e3, d, r, o3, o3.rd (r1.later (s2.trans s3)) h1, nox_ok_of h2, q.from ((s1.trans s2).trans s3)⟩
/-! ### isinstance -/
def isInst (T : String) : D → Bool
  | .none => false
  | .bool _ => T == "bool" || T == "int"
  | .int _ => T == "int"
  | .str _ => T == "str"
  | .list _ => T == "list"
  | .tuple _ => T == "tuple"
  | .dict _ => T == "dict"
def instD (T : String) (d : D) : R RV := .ok (.sh (.bool (isInst T d)))
def KitOk (T : String) : Prop := kitB "NoneType" T = some false ∧ kitB "bool" T = some (T == "bool" || T == "int") ∧ kitB "int" T = some (T == "int") ∧ kitB "str" T = some (T == "str") ∧ kitB "list" T = some (T == "list") ∧ kitB "tuple" T = some (T == "tuple") ∧ kitB "dict" T = some (T == "dict")
omit [Tables] in
theorem kit_int : KitOk "int" := by unfold KitOk; decide +kernel
omit [Tables] in
theorem kit_bool : KitOk "bool" := by unfold KitOk; decide +kernel
omit [Tables] in
theorem kit_str : KitOk "str" := by unfold KitOk; decide +kernel
omit [Tables] in
theorem kit_list : KitOk "list" := by unfold KitOk; decide +kernel
omit [Tables] in
theorem kit_tuple : KitOk "tuple" := by unfold KitOk; decide +kernel
/-- .. of locked dicts, too -/
inductive TyY (K : PySem.W.Frag) (H : Hp) : V → Value → Prop where
  | x {v : V} {t : Value} (h : TyX K H v t) : TyY K H v t
  | fT {a : Addr} {o : Obj} {ks : List (List Key × V)} (e : H a = some (.frz o (.dT ks))) : TyY K H (.ref a) (.type "dict")
omit [Tables] in
theorem kit_ofY {pins : List (Addr × Obj)} {σ : St} {H : Hp} {s : Shared} {x : V} {u t : Value} (I : Inv X pins σ H s) (rx : RelV x u) (ty : TyY X.K H x t) : ∃ P : Heap → Prop, PySem.W.KitX X.K u t P ∧ P s.heap ∧ u ≠ .builtin "__main__.__loader__#opaque" := by
  cases ty with
  | x h => exact kit_of I rx h
  | @fT a ob kvs ea =>
    cases (show u = Value.ref a from rx)
    obtain ⟨_, _, _, xs, _, o, es, ep, h1, h2, _⟩ := (show ObjOk X.prog X.w H s.heap a (.frz ob (.dT kvs)) from I.hok a _ ea)
    exact ⟨_, PySem.W.kitx_dict, ⟨o, h1, h2.1⟩, fun z => nomatch z⟩
def rIsiY (K : PySem.W.Frag) : List V → Hp → VK → Prop := fun xs H Q => ∃ (x c : V) (t u : Value) (b : Bool), xs = [x, c] ∧ ClsV c u ∧ TyY K H x t ∧ PySem.W.kitOne K t u = some b ∧ Q (.bl b) H
omit [Tables] in
theorem call_isiY : CallR X (.builtin "isinstance") (rIsiY X.K) := by
  intro pins s σ H xs us Q I r h
  obtain ⟨x, c, t, u, b, rfl, k, ty, e, q⟩ := h
  obtain ⟨u1, u2, rfl, r1, r2⟩ := vals2 r
  have e2 := k.eq r2
  subst e2
  obtain ⟨P, Z, p, hx⟩ := kit_ofY I r1 ty
  exact PySem.W.kia_one Z I.kIn p e hx fun tk => ⟨.bl b, H, I.tok tk, rfl, q⟩
omit [Tables] in
theorem TopR.ty {K : PySem.W.Frag} {Hs H : Hp} {x : V} {d : D} {T : String} (k : KitOk T) (s : Same Hs H) (t : TopR Hs H x d) : ∃ u, TyY K H x u ∧ PySem.W.kitOne K u (.type T) = some (isInst T d) := by
  obtain ⟨k1, k2, k3, k4, k5, k6, k7⟩ := k
  cases d with
  | none => rw [t.non]; exact ⟨_, .x (.base .non), kit_ty k1⟩
  | bool b => rw [t.bl]; exact ⟨_, .x (.base (.bl _)), kit_ty k2⟩
  | int b => rw [t.int]; exact ⟨_, .x (.base (.int _)), kit_ty k3⟩
  | str b => rw [t.str]; exact ⟨_, .x (.base (.str _)), kit_ty k4⟩
  | list ds => obtain ⟨p, xs, e, h1, _⟩ := t.list s; rw [e]; exact ⟨_, .x (.base (.lst h1)), kit_ty k5⟩
  | tuple ds => obtain ⟨p, xs, e, h1, _⟩ := t.tuple; rw [e]; exact ⟨_, .x (.base (.tup (s _ _ h1))), kit_ty k6⟩
  | dict ds =>
    rcases t with h | ⟨p, c, o, e, ho, hc, hd⟩
    · cases h with
      | dctK h1 _ _ => exact ⟨_, .x (.fDict (s _ _ h1)), kit_ty k7⟩
      | dctT h1 _ _ => exact ⟨_, .fT (s _ _ h1), kit_ty k7⟩
    · subst e
      cases c with
      | lst _ => cases hd
      | dct t _ =>
        cases t with
        | false => obtain ⟨ks, rfl, _⟩ := hc; exact ⟨_, .x (.base (.dK ho)), kit_ty k7⟩
        | true => obtain ⟨ks, rfl, _⟩ := hc; exact ⟨_, .x (.base (.dT ho)), kit_ty k7⟩
theorem ge_isinst {T : String} {Tn : Str} {p pT : Pos} (k : KitOk T) (hm : X.mg "isinstance" = none) (hmT : X.mg Tn = none) (hvT : bootBuiltins Tn = some (.type T)) (ha : GE X E a fa) (hg : Gl X "isinstance" := by rfl) (hgT : Gl X Tn := by rfl)
    (hv : bootBuiltins "isinstance" = some (.builtin "isinstance") := by decide +kernel) (hnT : Tn ≠ "__name__" := by decide) (hdT : (Tn == ("__debug__" : Str)) = false := by decide)
    (he : starEach (a :: [.Name Tn pT]) X.env = (false, eval a X.env) :: starEach [.Name Tn pT] X.env := by rfl) : GE X E (.Call (.Name "isinstance" p) [a, .Name Tn pT] [] pos) (fUn (instD T) fa) := by
  refine PE.imp (pe_callB call_isiY hg hm hv (pa_cons ha (pa_cons (pe_bltn (v := .ty T) hgT hmT hvT rfl hnT hdT) pa_nil) he) (by decide) (by decide) he) fun σ H Q ⟨S, Hs, env, ok, h⟩ => ?_
  refine tI.mono (bindH ok h) fun v H1 ⟨Hs1, x, s1, o1, r1, q⟩ => ?_
  obtain ⟨d, h1, q⟩ := RD.inv (rd_nox _ _) q
  obtain ⟨u, hu, hk⟩ := (o1.rd r1 h1).ty (K := X.K) k o1.sub
  exact ⟨v, .ty T, u, .type T, isInst T d, rfl, .ty T, hu, hk, (show PV S Hs σ Q (.sh (.bool _), x.2) from q) _ Hs1 H1 s1 o1 (.bl _)⟩
end
/-! ### functions of data -/
def intsOf : List D → Option (List Int)
  | [] => some []
  | .int i :: ds => (intsOf ds).map (i :: ·)
  | _ :: _ => none
def boolsOf : List D → Option (List Bool)
  | [] => some []
  | .bool i :: ds => (boolsOf ds).map (i :: ·)
  | _ :: _ => none
theorem intsOf_map : ∀ {ds : List D} {ns : List Int}, intsOf ds = some ns → ds = ns.map PyData.int
  | [], _, e => by cases e; rfl
  | .int i :: ds, ns, e => by
    simp only [intsOf] at e
    cases h : intsOf ds with
    | none => rw [h] at e; cases e
    | some ms => rw [h] at e; cases e; rw [intsOf_map h]; rfl
  | .none :: _, _, e | .bool _ :: _, _, e | .str _ :: _, _, e | .list _ :: _, _, e | .tuple _ :: _, _, e | .dict _ :: _, _, e => by cases e
theorem boolsOf_map : ∀ {ds : List D} {ns : List Bool}, boolsOf ds = some ns → ds = ns.map PyData.bool
  | [], _, e => by cases e; rfl
  | .bool i :: ds, ns, e => by
    simp only [boolsOf] at e
    cases h : boolsOf ds with
    | none => rw [h] at e; cases e
    | some ms => rw [h] at e; cases e; rw [boolsOf_map h]; rfl
  | .none :: _, _, e | .int _ :: _, _, e | .str _ :: _, _, e | .list _ :: _, _, e | .tuple _ :: _, _, e | .dict _ :: _, _, e => by cases e
theorem intsOf_ints : ∀ ns : List Int, intsOf (ns.map PyData.int) = some ns
  | [] => rfl
  | n :: ns => by simp [intsOf, intsOf_ints ns]
theorem boolsOf_bools : ∀ ns : List Bool, boolsOf (ns.map PyData.bool) = some ns
  | [] => rfl
  | n :: ns => by simp [boolsOf, boolsOf_bools ns]
def lenD : List D → R RV
  | [.list ds] => .ok (.sh (.int ds.length))
  | [.tuple ds] => .ok (.sh (.int ds.length))
  | _ => .bad
def listD : List D → R RV
  | [.list ds] => .ok (.fr (.lst ds))
  | [.tuple ds] => .ok (.fr (.lst ds))
  | _ => .bad
def tupleD : List D → R RV
  | [.list ds] => .ok (.sh (.tuple ds))
  | [.tuple ds] => .ok (.sh (.tuple ds))
  | _ => .bad
def allD : List D → R RV
  | [.list ds] => match boolsOf ds with
    | some bs => .ok (.sh (.bool (bs.all id)))
    | none => .bad
  | _ => .bad
def anyD : List D → R RV
  | [.list ds] => match boolsOf ds with
    | some bs => .ok (.sh (.bool (bs.any id)))
    | none => .bad
  | _ => .bad
def sumD : List D → R RV
  | [.list ds] => match intsOf ds with
    | some ns => .ok (.sh (.int ns.sum))
    | none => .bad
  | _ => .bad
def maxI : Int → List Int → Int
  | m, [] => m
  | m, x :: xs => maxI (if m < x then x else m) xs
def minI : Int → List Int → Int
  | m, [] => m
  | m, x :: xs => minI (if x < m then x else m) xs
def maxD : List D → R RV
  | [.int i, .int j] => .ok (.sh (.int (if j > i then j else i)))
  | [.list ds] => match intsOf ds with
    | some (n :: ns) => .ok (.sh (.int (maxI n ns)))
    | _ => .bad
  | _ => .bad
def minD : List D → R RV
  | [.int i, .int j] => .ok (.sh (.int (if j < i then j else i)))
  | [.list ds] => match intsOf ds with
    | some (n :: ns) => .ok (.sh (.int (minI n ns)))
    | _ => .bad
  | _ => .bad
def absD : List D → R RV
  | [.int i] => .ok (.sh (.int (if i < 0 then -i else i)))
  | _ => .bad
def intD : List D → R RV
  | [.int i] => .ok (.sh (.int i))
  | _ => .bad
def strD : List D → R RV
  | [.int i] => if i.natAbs.log2 < 1920 then .ok (.sh (.str (toString i))) else .bad
  | _ => .bad
theorem maxI_mem : ∀ (ns : List Int) (m : Int), maxI m ns ∈ m :: ns
  | [], m => by simp [maxI]
  | x :: xs, m => by
    have := maxI_mem xs (if m < x then x else m)
    unfold maxI
    by_cases h : m < x
    · rw [if_pos h] at this ⊢; exact List.mem_cons_of_mem _ this
    · rw [if_neg h] at this ⊢
      rcases List.mem_cons.mp this with e | e
      · rw [e]; exact List.mem_cons_self
      · exact List.mem_cons_of_mem _ (List.mem_cons_of_mem _ e)
theorem maxI_le : ∀ (ns : List Int) (m y : Int), y ∈ m :: ns → y ≤ maxI m ns
  | [], m, y, h => by simp at h; subst h; exact Int.le_refl _
  | x :: xs, m, y, h => by
    unfold maxI
    by_cases hm : m < x
    · rw [if_pos hm]
      rcases List.mem_cons.mp h with e | h
      · have := maxI_le xs x x List.mem_cons_self; omega
      · exact maxI_le xs x y h
    · rw [if_neg hm]
      rcases List.mem_cons.mp h with e | h
      · subst e; exact maxI_le xs _ _ List.mem_cons_self
      · rcases List.mem_cons.mp h with e | h
        · have := maxI_le xs m m List.mem_cons_self; omega
        · exact maxI_le xs m y (List.mem_cons_of_mem _ h)
theorem minI_mem : ∀ (ns : List Int) (m : Int), minI m ns ∈ m :: ns
  | [], m => by simp [minI]
  | x :: xs, m => by
    have := minI_mem xs (if x < m then x else m)
    unfold minI
    by_cases h : x < m
    · rw [if_pos h] at this ⊢; exact List.mem_cons_of_mem _ this
    · rw [if_neg h] at this ⊢
      rcases List.mem_cons.mp this with e | e
      · rw [e]; exact List.mem_cons_self
      · exact List.mem_cons_of_mem _ (List.mem_cons_of_mem _ e)
theorem minI_le : ∀ (ns : List Int) (m y : Int), y ∈ m :: ns → minI m ns ≤ y
  | [], m, y, h => by simp at h; subst h; exact Int.le_refl _
  | x :: xs, m, y, h => by
    unfold minI
    by_cases hm : x < m
    · rw [if_pos hm]
      rcases List.mem_cons.mp h with e | h
      · have := minI_le xs x x List.mem_cons_self; omega
      · exact minI_le xs x y h
    · rw [if_neg hm]
      rcases List.mem_cons.mp h with e | h
      · subst e; exact minI_le xs _ _ List.mem_cons_self
      · rcases List.mem_cons.mp h with e | h
        · have := minI_le xs m m List.mem_cons_self; omega
        · exact minI_le xs m y (List.mem_cons_of_mem _ h)
section
variable [Tables] {X : Cx}
omit [Tables] in
theorem TopAll.one {Hs H : Hp} {xs : List V} {d : D} (h : TopAll Hs H xs [d]) : ∃ x, xs = [x] ∧ TopR Hs H x d := by
  cases h with
  | cons h r => cases r; exact ⟨_, rfl, h⟩
omit [Tables] in
theorem TopAll.two {Hs H : Hp} {xs : List V} {d e : D} (h : TopAll Hs H xs [d, e]) : ∃ x y, xs = [x, y] ∧ TopR Hs H x d ∧ TopR Hs H y e := by
  cases h with
  | cons h r => obtain ⟨y, e, h2⟩ := TopAll.one r; subst e; exact ⟨_, _, rfl, h, h2⟩
theorem cr_lenD : CallR X (.builtin "len") (rL lenD) := by
  rintro pins s σ H xs us Q I r ⟨S, Hs, σ', env, ds, rr, ok, t, e, q⟩
  unfold lenD at e
  split at e
  · cases e
    obtain ⟨x, rfl, t1⟩ := t.one
    obtain ⟨p, ys, rfl, h1, h2, h3⟩ := t1.list ok.sub
    refine call_len_seq pins s σ H _ us Q I r ⟨p, ys, rfl, .inl (SqL.of h1), ?_⟩
    rw [h3.length]; exact PV.sh ok q (.int _)
  · cases e
    obtain ⟨x, rfl, t1⟩ := t.one
    obtain ⟨p, ys, rfl, h1, h2, h3⟩ := t1.tuple
    refine call_len_seq pins s σ H _ us Q I r ⟨p, ys, rfl, .inr (SqT.of (ok.sub _ _ h1)), ?_⟩
    rw [h3.length]; exact PV.sh ok q (.int _)
  · cases e
theorem cr_listD : CallR X (.type "list") (rL listD) := by
  rintro pins s σ H xs us Q I r ⟨S, Hs, σ', env, ds, rr, ok, t, e, q⟩
  unfold listD at e
  split at e
  · cases e
    obtain ⟨x, rfl, t1⟩ := t.one
    obtain ⟨p, ys, rfl, h1, h2, h3⟩ := t1.list ok.sub
    exact call_list_of pins s σ H _ us Q I r ⟨p, ys, rfl, .inl (SqL.of h1), fun l hl => PV.lst ok q h3 h2 hl⟩
  · cases e
    obtain ⟨x, rfl, t1⟩ := t.one
    obtain ⟨p, ys, rfl, h1, h2, h3⟩ := t1.tuple
    exact call_list_of pins s σ H _ us Q I r ⟨p, ys, rfl, .inr (SqT.of (ok.sub _ _ h1)), fun l hl => PV.lst ok q h3 h2 hl⟩
  · cases e
theorem cr_tupleD : CallR X (.type "tuple") (rL tupleD) := by
  rintro pins s σ H xs us Q I r ⟨S, Hs, σ', env, ds, rr, ok, t, e, q⟩
  unfold tupleD at e
  split at e
  · cases e
    obtain ⟨x, rfl, t1⟩ := t.one
    obtain ⟨p, ys, rfl, h1, h2, h3⟩ := t1.list ok.sub
    exact call_tuple_of pins s σ H _ us Q I r ⟨p, ys, rfl, .inl ⟨SqL.of h1, fun l hl => PV.tup ok q h3 h2 hl⟩⟩
  · cases e
    obtain ⟨x, rfl, t1⟩ := t.one
    obtain ⟨p, ys, rfl, h1, h2, h3⟩ := t1.tuple
    exact call_tuple_of pins s σ H _ us Q I r ⟨p, ys, rfl, .inr ⟨SqT.of (ok.sub _ _ h1), PV.sh ok q (.tup h1 h2 h3)⟩⟩
  · cases e
theorem cr_allD (hc : X.calm = true) : CallR X (.builtin "all") (rL allD) := by
  rintro pins s σ H xs us Q I r ⟨S, Hs, σ', env, ds, rr, ok, t, e, q⟩
  unfold allD at e
  split at e
  · split at e
    · rename_i bs hb
      cases e
      obtain ⟨x, rfl, t1⟩ := t.one
      obtain ⟨p, ys, rfl, h1, h2, h3⟩ := t1.list ok.sub
      rw [boolsOf_map hb] at h3
      rw [h3.bls_of] at h1
      exact cr_all hc pins s σ H _ us Q I r ⟨p, bs, rfl, SqL.of h1, PV.sh ok q (.bl _)⟩
    · cases e
  · cases e
theorem cr_anyD (hc : X.calm = true) : CallR X (.builtin "any") (rL anyD) := by
  rintro pins s σ H xs us Q I r ⟨S, Hs, σ', env, ds, rr, ok, t, e, q⟩
  unfold anyD at e
  split at e
  · split at e
    · rename_i bs hb
      cases e
      obtain ⟨x, rfl, t1⟩ := t.one
      obtain ⟨p, ys, rfl, h1, h2, h3⟩ := t1.list ok.sub
      rw [boolsOf_map hb] at h3
      rw [h3.bls_of] at h1
      exact cr_any hc pins s σ H _ us Q I r ⟨p, bs, rfl, SqL.of h1, PV.sh ok q (.bl _)⟩
    · cases e
  · cases e
theorem cr_sumD (hc : X.calm = true) : CallR X (.builtin "sum") (rL sumD) := by
  rintro pins s σ H xs us Q I r ⟨S, Hs, σ', env, ds, rr, ok, t, e, q⟩
  unfold sumD at e
  split at e
  · split at e
    · rename_i ns hb
      cases e
      obtain ⟨x, rfl, t1⟩ := t.one
      obtain ⟨p, ys, rfl, h1, h2, h3⟩ := t1.list ok.sub
      rw [intsOf_map hb] at h3
      rw [h3.ints_of] at h1
      exact cr_sum hc pins s σ H _ us Q I r ⟨p, ns, rfl, SqL.of h1, PV.sh ok q (.int _)⟩
    · cases e
  · cases e
theorem cr_maxD (hc : X.calm = true) : CallR X (.builtin "max") (rL maxD) := by
  rintro pins s σ H xs us Q I r ⟨S, Hs, σ', env, ds, rr, ok, t, e, q⟩
  unfold maxD at e
  split at e
  · cases e
    obtain ⟨x, y, rfl, t1, t2⟩ := t.two
    obtain rfl := t1.int
    obtain rfl := t2.int
    exact call_max2 hc pins s σ H _ us Q I r ⟨_, _, rfl, PV.sh ok q (.int _)⟩
  · split at e
    · rename_i n ns hb
      cases e
      obtain ⟨x, rfl, t1⟩ := t.one
      obtain ⟨p, ys, rfl, h1, h2, h3⟩ := t1.list ok.sub
      rw [intsOf_map hb] at h3
      rw [h3.ints_of] at h1
      refine cr_max hc pins s σ H _ us Q I r ⟨p, n :: ns, rfl, SqL.of h1, by simp, fun m hm hle => ?_⟩
      have e1 := hle _ (maxI_mem ns n)
      have e2 := maxI_le ns n m hm
      obtain rfl : m = maxI n ns := by omega
      exact PV.sh ok q (.int _)
    · cases e
  · cases e
theorem cr_minD (hc : X.calm = true) : CallR X (.builtin "min") (rL minD) := by
  rintro pins s σ H xs us Q I r ⟨S, Hs, σ', env, ds, rr, ok, t, e, q⟩
  unfold minD at e
  split at e
  · cases e
    obtain ⟨x, y, rfl, t1, t2⟩ := t.two
    obtain rfl := t1.int
    obtain rfl := t2.int
    exact call_min2 hc pins s σ H _ us Q I r ⟨_, _, rfl, PV.sh ok q (.int _)⟩
  · split at e
    · rename_i n ns hb
      cases e
      obtain ⟨x, rfl, t1⟩ := t.one
      obtain ⟨p, ys, rfl, h1, h2, h3⟩ := t1.list ok.sub
      rw [intsOf_map hb] at h3
      rw [h3.ints_of] at h1
      refine cr_min hc pins s σ H _ us Q I r ⟨p, n :: ns, rfl, SqL.of h1, by simp, fun m hm hle => ?_⟩
      have e1 := hle _ (minI_mem ns n)
      have e2 := minI_le ns n m hm
      obtain rfl : m = minI n ns := by omega
      exact PV.sh ok q (.int _)
    · cases e
  · cases e
theorem cr_absD : CallR X (.builtin "abs") (rL absD) := by
  rintro pins s σ H xs us Q I r ⟨S, Hs, σ', env, ds, rr, ok, t, e, q⟩
  unfold absD at e
  split at e
  · cases e
    obtain ⟨x, rfl, t1⟩ := t.one
    obtain rfl := t1.int
    exact call_abs pins s σ H _ us Q I r ⟨_, rfl, PV.sh ok q (.int _)⟩
  · cases e
theorem cr_intD : CallR X (.type "int") (rL intD) := by
  rintro pins s σ H xs us Q I r ⟨S, Hs, σ', env, ds, rr, ok, t, e, q⟩
  unfold intD at e
  split at e
  · cases e
    obtain ⟨x, rfl, t1⟩ := t.one
    obtain rfl := t1.int
    exact call_int1 pins s σ H _ us Q I r (.inl ⟨_, rfl, PV.sh ok q (.int _)⟩)
  · cases e
theorem cr_strD : CallR X (.type "str") (rL strD) := by
  rintro pins s σ H xs us Q I r ⟨S, Hs, σ', env, ds, rr, ok, t, e, q⟩
  unfold strD at e
  split at e
  · split at e
    · rename_i hi
      cases e
      obtain ⟨x, rfl, t1⟩ := t.one
      obtain rfl := t1.int
      exact call_str_int pins s σ H _ us Q I r ⟨_, rfl, hi, PV.sh ok q (.str _)⟩
    · cases e
  · cases e
end
/-! ### tuple(range(..)), list(range(..)) -/
def rgOk (i j : Int) : Bool := decide (i.natAbs ≤ 4194304 ∧ j.natAbs ≤ 4194304)
def rg1 (a : FE) : Env → R ((Int × Int) × Env) := fun env => (a env).bnd fun x => match x.1 with
  | .sh (.int j) => if rgOk 0 j then .ok ((0, j), x.2) else .bad
  | _ => .bad
def rg2 (a b : FE) : Env → R ((Int × Int) × Env) := fun env => (a env).bnd fun x => (b x.2).bnd fun y => match x.1, y.1 with
  | .sh (.int i), .sh (.int j) => if rgOk i j then .ok ((i, j), y.2) else .bad
  | _, _ => .bad
def fTupRg (r : Env → R ((Int × Int) × Env)) : FE := fun env => (r env).bnd fun x => .ok (.sh (.tuple (rng x.1.1 (x.1.2 - x.1.1).toNat)), x.2)
def fLstRg (r : Env → R ((Int × Int) × Env)) : FE := fun env => (r env).bnd fun x => .ok (.fr (.lst (rng x.1.1 (x.1.2 - x.1.1).toNat)), x.2)
def rgI [Tables] (E : XE) (r : Env → R ((Int × Int) × Env)) : St → Hp → (Int → Int → Hp → Prop) → Prop := fun σ H Q => ∃ S Hs env, Ok S Hs H σ env ∧ (r env).RD (fun x => ∀ Hs' H', Same Hs Hs' → Ok S Hs' H' σ x.2 → rgOk x.1.1 x.1.2 = true → Q x.1.1 x.1.2 H') (EC E S Hs)
abbrev GRg [Tables] (X : Cx) (E : XE) (e : Expr) (r : Env → R ((Int × Int) × Env)) : Prop := PRg X e (rgI E r)
theorem rgV_eq [Tables] (a b : Int) (Hs : Hp) : DqAll Hs (rgV a b) (rng a (b - a).toNat) := by
  have e : rgV a b = (((List.range (b - a).toNat).map fun (i : Nat) => a + (i : Int))).map V.int := by unfold rgV; rw [List.map_map]; rfl
  have e2 : rng a (b - a).toNat = (((List.range (b - a).toNat).map fun (i : Nat) => a + (i : Int))).map PyData.int := by
    apply List.ext_getElem?
    intro i
    rw [rng_get, List.getElem?_map, List.getElem?_map]
    by_cases h : i < (b - a).toNat
    · rw [if_pos h, List.getElem?_range h]; rfl
    · rw [if_neg h, List.getElem?_eq_none (by rw [List.length_range]; omega)]; rfl
  rw [e, e2]
  exact DqAll.ints
section
variable [Tables] {X : Cx} {E : XE} {a b : Expr} {fa fb : FE} {p pos : Pos}
omit [Tables] in
theorem rgOk_ok {i j : Int} (h : rgOk i j = true) : RgOk i j := by
  have := of_decide_eq_true h
  exact ⟨by omega, by omega, by omega, by omega, by omega⟩
theorem grg_1 (hm : X.mg "range" = none) (ha : GE X E a fa) (hg : Gl X "range" := by rfl) (na : starEach [a] X.env = (false, eval a X.env) :: starEach [] X.env := by rfl) : GRg X E (.Call (.Name "range" p) [a] [] pos) (rg1 fa) := by
  rintro pins s σ H Q I ⟨S, Hs, env, ok, h⟩
  refine prg_1 hg hm ha na pins s σ H Q I (tI.mono (bindE ok h) fun v H1 ⟨Hs1, x, s1, o1, r1, q⟩ => ?_)
  obtain ⟨r, e1⟩ := x
  simp only at q
  split at q
  · rename_i r0 j
    cases (show Dq Hs1 v (.int j) from r1)
    split at q
    · rename_i hr
      exact ⟨j, rfl, q Hs1 H1 s1 o1 hr⟩
    · exact q.elim
  · exact q.elim
theorem grg_2 (hm : X.mg "range" = none) (ha : GE X E a fa) (hb : GE X E b fb) (hg : Gl X "range" := by rfl) (na : starEach [a, b] X.env = (false, eval a X.env) :: starEach [b] X.env := by rfl) (nb : starEach [b] X.env = (false, eval b X.env) :: starEach [] X.env := by rfl) (hp : (backTo pos (starEach [b] X.env)).any (·.1) = false := by rfl) : GRg X E (.Call (.Name "range" p) [a, b] [] pos) (rg2 fa fb) := by
  rintro pins s σ H Q I ⟨S, Hs, env, ok, h⟩
  refine prg_2 hg hm ha hb na nb hp pins s σ H Q I (tI.mono (bindE ok h) fun v H1 ⟨Hs1, x, s1, o1, r1, q⟩ => tI.mono (bindE o1 q) fun w H2 ⟨Hs2, y, s2, o2, r2, q⟩ => ?_)
  obtain ⟨r, e1⟩ := x
  obtain ⟨r', e2⟩ := y
  simp only at q
  split at q
  · split at q
    · rename_i hr
      cases r1
      cases r2
      exact ⟨_, _, rfl, rfl, q Hs2 H2 (s1.trans s2) o2 hr⟩
    · exact q.elim
  · exact q.elim
variable {e : Expr} {r : Env → R ((Int × Int) × Env)}
theorem rgI.mono {σ : St} {H : Hp} {Q Q' : Int → Int → Hp → Prop} (h : rgI E r σ H Q) (i : ∀ a b H, Q a b H → Q' a b H) : rgI E r σ H Q' := by
  obtain ⟨S, Hs, env, ok, h⟩ := h
  exact ⟨S, Hs, env, ok, h.mono (fun x hx Hs' H' s o l => i _ _ _ (hx Hs' H' s o l)) fun _ z => z⟩
omit [Tables] in
theorem rgV_len {i j : Int} (h : rgOk i j = true) : (rgV i j).length ≤ sizeLine := by
  have := of_decide_eq_true h
  rw [rgV_length, sizeL]
  omega
theorem ge_tupRg (hc : X.calm = true) (hm : X.mg "tuple" = none) (he : GRg X E e r) (hg : Gl X "tuple" := by rfl) (na : starEach [e] X.env = (false, eval e X.env) :: starEach [] X.env := by rfl) : GE X E (.Call (.Name "tuple" p) [e] [] pos) (fTupRg r) := by
  refine PE.imp (pe_tupRg hc hg hm he na) fun σ H Q ⟨S, Hs, env, ok, h⟩ => ?_
  unfold fTupRg at h
  rw [RD_bnd] at h
  exact ⟨S, Hs, env, ok, h.mono (fun x hx Hs1 H1 s1 o1 hr => ⟨rgOk_ok hr, fun q hq => PV.tup o1 (PV.from s1 hx) (rgV_eq _ _ _) (rgV_len hr) hq⟩) fun _ z => z⟩
theorem ge_lstRg (hc : X.calm = true) (hm : X.mg "list" = none) (he : GRg X E e r) (hg : Gl X "list" := by rfl) (na : starEach [e] X.env = (false, eval e X.env) :: starEach [] X.env := by rfl) : GE X E (.Call (.Name "list" p) [e] [] pos) (fLstRg r) := by
  refine PE.imp (pe_listRg hc hg hm he na) fun σ H Q ⟨S, Hs, env, ok, h⟩ => ?_
  unfold fLstRg at h
  rw [RD_bnd] at h
  exact ⟨S, Hs, env, ok, h.mono (fun x hx Hs1 H1 s1 o1 hr => ⟨rgOk_ok hr, fun q hq => PV.lst o1 (PV.from s1 hx) (rgV_eq _ _ _) (rgV_len hr) hq⟩) fun _ z => z⟩
end
end PI
set_option autoImplicit false
set_option Elab.async false
set_option linter.all false
set_option maxRecDepth 100000
set_option autoImplicit false
set_option maxHeartbeats 2000000
/-! Pi8: enumerate and zip over lists and tuples, mixed. -/
namespace PI
open PySem PySem.Spec PyProof.Rows L2
open R (RD_bnd)
/-- a list (true) or a tuple (false), and its iterator -/
def IsSq (h : Heap) (b : Bool) (l : Addr) (items : Array Value) : Prop := match b with
  | true => h.IsList l items
  | false => h.IsTuple l items
def IsIt (h : Heap) (b : Bool) (it l : Addr) (i : Nat) : Prop := match b with
  | true => h.IsListIter it l i
  | false => h.IsTupleIter it l i
def itTy (b : Bool) : String := if b then "list_iterator" else "tuple_iterator"
section
variable {h h' : Heap} {b : Bool} {it l a : Addr} {i : Nat} {items : Array Value}
theorem IsSq.ext (x : IsSq h b l items) (hs : Heap.ExtBut a h h') (ne : l ≠ a) : IsSq h' b l items := by
  cases b with
  | true => exact Heap.IsList.extBut x hs ne
  | false => obtain ⟨o, ho, r⟩ := (show h.IsTuple l items from x); exact (⟨o, hs l o ne ho, r⟩ : h'.IsTuple l items)
theorem IsSq.at (x : IsSq h b l items) (e : ∀ o, h.get? l = some o → h'.get? l = some o) : IsSq h' b l items := by
  cases b with
  | true => obtain ⟨o, ho, r⟩ := (show h.IsList l items from x); exact (⟨o, e o ho, r⟩ : h'.IsList l items)
  | false => obtain ⟨o, ho, r⟩ := (show h.IsTuple l items from x); exact (⟨o, e o ho, r⟩ : h'.IsTuple l items)
theorem IsSq.lt (x : IsSq h b l items) : l < h.objs.size := by
  cases b with
  | true => obtain ⟨o, ho, _⟩ := (show h.IsList l items from x); exact Heap.lt_size ho
  | false => obtain ⟨o, ho, _⟩ := (show h.IsTuple l items from x); exact Heap.lt_size ho
theorem IsIt.ext (x : IsIt h b it l i) (hs : Heap.ExtBut a h h') (ne : it ≠ a) : IsIt h' b it l i := by
  cases b with
  | true => exact Heap.IsListIter.extBut x hs ne
  | false => exact Heap.IsTupleIter.extBut x hs ne
theorem IsIt.at (x : IsIt h b it l i) (e : ∀ o, h.get? it = some o → h'.get? it = some o) : IsIt h' b it l i := by
  cases b with
  | true => exact Heap.IsListIter.at x e
  | false => exact Heap.IsTupleIter.at x e
theorem IsIt.ob (x : IsIt h b it l i) : ∃ o, h.get? it = some o ∧ ∀ v, o.data ≠ .cell v := by
  cases b with
  | true => obtain ⟨o, ho, _, hd⟩ := (show h.IsListIter it l i from x); exact ⟨o, ho, fun v q => by rw [hd] at q; cases q⟩
  | false => obtain ⟨o, ho, _, hd⟩ := (show h.IsTupleIter it l i from x); exact ⟨o, ho, fun v q => by rw [hd] at q; cases q⟩
theorem IsIt.new : IsIt (h.push { cls := .type (itTy b), data := .fields #[.ref l, .int 0 0] }) b h.objs.size l 0 := by
  cases b with
  | true =>
    show Heap.IsListIter (h.push { cls := .type (itTy true), data := .fields #[.ref l, .int 0 0] }) h.objs.size l 0
    exact ⟨_, Heap.get?_push_size _ rfl, rfl, rfl⟩
  | false =>
    show Heap.IsTupleIter (h.push { cls := .type (itTy false), data := .fields #[.ref l, .int 0 0] }) h.objs.size l 0
    exact ⟨_, Heap.get?_push_size _ rfl, rfl, rfl⟩
end
section
variable [Tables] {prog : Program} {w : World} {A : Around} {E : Value → Shared → Prop} {s : Shared} {b b1 b2 : Bool}
omit [Tables] in
theorem iter_sq {l : Addr} {items : Array Value} {Q : Value → Shared → Prop} (hl : IsSq s.heap b l items)
    (hQ : Q (.ref s.heap.objs.size) { s with heap := s.heap.push { cls := .type (itTy b), data := .fields #[.ref l, .int 0 0] } }) : wpAny (model prog w) A (pyIter (.ref l)) Q E s := by
  cases b with
  | true => exact wpAny_pyIter_list hl hQ
  | false => exact wpAny_pyIter_tuple hl hQ
omit [Tables] in
theorem next_sq {it l : Addr} {i : Nat} {items : Array Value} {x : Value} {Q : Value → Shared → Prop} (hit : IsIt s.heap b it l i) (hl : IsSq s.heap b l items) (hx : items[i]? = some x)
    (hQ : ∀ h', IsIt h' b it l (i + 1) → Heap.SameBut it s.heap h' → Q x { s with heap := h' }) : wpAny (model prog w) A (Builtin.SmallTypes.nextOf (.ref it)) Q E s := by
  cases b with
  | true => exact wpAny_nextOf_list_item hit hl hx hQ
  | false => exact RZ.nextOf_tuple_item hit hl hx hQ
omit [Tables] in
theorem end_sq {it l : Addr} {i : Nat} {items : Array Value} {Q : Value → Shared → Prop} (hh : A.handled = none) (hit : IsIt s.heap b it l i) (hl : IsSq s.heap b l items) (hx : items[i]? = none)
    (hE : ∀ h' e, Heap.ExtBut it s.heap h' → (∃ o, h'.get? e = some o ∧ o.cls = .type "StopIteration") → E (.ref e) { s with heap := h' }) : wpAny (model prog w) A (Builtin.SmallTypes.nextOf (.ref it)) Q E s := by
  cases b with
  | true => exact wpAny_nextOf_list_end hh hit hl hx hE
  | false => exact RZ.nextOf_tuple_end hh hit hl hx hE
omit [Tables] in
theorem drawsSq (hh : A.handled = none) (it l : Addr) (ne : l ≠ it) (items : Array Value) :
    Draws prog w A it [it, l] items.size (fun i v => items[i]? = some v) (fun i h => IsIt h b it l i ∧ IsSq h b l items) where
  live := fun _ _ st => let ⟨o, ho, _⟩ := st.1.ob; ⟨o, ho⟩
  frame := fun _ _ _ st hk => ⟨st.1.at fun o e => hk it (by simp) o e, st.2.at fun o e => hk l (by simp) o e⟩
  item := fun i s Q E hi st hQ => next_sq st.1 st.2 (x := items[i]) (by simp [hi]) fun h' hit' hs' => hQ _ h' s.toks (by simp [hi]) ⟨hit', st.2.ext hs'.extBut ne⟩ hs'
  done := fun s Q E st hE => end_sq hh st.1 st.2 (by simp) hE
/-! ### enumerate -/
omit [Tables] in
theorem meets_enumSq (l : Addr) (items : Array Value) :
    Meets (Builtin.«enumerate.__new__» ⟨[.type "enumerate", .ref l], []⟩) (fun _ R s => IsSq s.heap b l items ∧
      R (.ok (.ret (.ref (s.heap.push { cls := .type (itTy b), data := .fields #[.ref l, .int 0 0] }).objs.size)))
        { s with heap := (s.heap.push { cls := .type (itTy b), data := .fields #[.ref l, .int 0 0] }).push { cls := .type "enumerate", data := .fields #[.none, .bool false, .ref s.heap.objs.size, rawInt 0, .none, .none] } }) :=
  .of_wp fun prog w A R s h => by
    obtain ⟨hp, g, d, tk, os⟩ := s
    obtain ⟨hl, h⟩ := h
    have hsub := sub_enumerate
    have hL : IsSq (Shared.heap ⟨hp, g, d, tk, os⟩) b l items := hl
    wp_walk
    refine wpAny_stack_any fun st => wpAny_pure ?_
    split
    · rename_i c _ _ _ _ _
      cases hc : (c == Value.type "enumerate")
      · wp_walk using iter_sq hL
        exact ⟨_, rfl, h⟩
      · wp_walk using iter_sq hL
        exact ⟨_, rfl, h⟩
    · wp_walk using iter_sq hL
      exact ⟨_, rfl, h⟩
omit [Tables] in
theorem call_enumSq {l : Addr} {items : Array Value} {Q : Value → Shared → Prop} (hL : IsSq s.heap b l items)
    (h : ∀ h', IsEnum h' (s.heap.objs.size + 1) s.heap.objs.size 0 .none → IsIt h' b s.heap.objs.size l 0 → (∀ b o, s.heap.get? b = some o → h'.get? b = some o) → Q (.ref (s.heap.objs.size + 1)) { s with heap := h' }) :
    wpAny (model prog w) A (call (.type "enumerate") [.ref l]) Q E s := by
  refine callType_new F.called_enumerate (by decide) (F.typeCall_enumerate_1 _) (F.newCall_enumerate_1 _) (fun obj => F.args_object_init_2 obj _) F.entry_enumerate_new (meets_enumSq (b := b) l items) ⟨hL, ?_⟩
  generalize hg1 : s.heap.push { cls := .type (itTy b), data := .fields #[.ref l, .int 0 0] } = g1
  have hz : g1.objs.size = s.heap.objs.size + 1 := by rw [← hg1]; exact Heap.size_push ..
  have hi : IsIt g1 b s.heap.objs.size l 0 := by rw [← hg1]; exact IsIt.new
  have hk : ∀ b o, s.heap.get? b = some o → g1.get? b = some o := fun b o x => by rw [← hg1]; exact Heap.get?_push_of_some _ x
  generalize hg2 : g1.push { cls := .type "enumerate", data := .fields #[.none, .bool false, .ref s.heap.objs.size, rawInt 0, .none, .none] } = g2
  have he : IsEnum g2 (s.heap.objs.size + 1) s.heap.objs.size 0 .none := by rw [← hz, ← hg2]; exact Heap.get?_push_size _ rfl
  have hk2 : ∀ b o, g1.get? b = some o → g2.get? b = some o := fun b o x => by rw [← hg2]; exact Heap.get?_push_of_some _ x
  show _ ∧ _
  rw [hz]
  exact ⟨⟨_, he, rfl⟩, h _ he (hi.at fun o x => hk2 _ o x) fun b o x => hk2 b o (hk b o x)⟩
end
/-- the items that stand at a, a list or a tuple -/
def Sq (K : PySem.W.Frag) (H : Hp) (b : Bool) (a : Addr) (xs : List V) : Prop := match b with
  | true => SqL K H a xs
  | false => SqT K H a xs
section
variable [Tables] {X : Cx} {pins : List (Addr × Obj)} {σ : St} {H : Hp} {s : Shared} {a : Addr} {xs ys : List V} {b : Bool}
omit [Tables] in
theorem Inv.sq (I : Inv X pins σ H s) (h : Sq X.K H b a xs) : ∃ its : List Value, Vals xs its ∧ IsSq s.heap b a its.toArray := by
  cases b with
  | true => obtain ⟨its, r, p, _⟩ := I.list h; exact ⟨its, r, p.isList⟩
  | false => obtain ⟨its, r, p, _⟩ := I.tuple h; exact ⟨its, r, p⟩
omit [Tables] in
theorem Inv.sq_inj (I : Inv X pins σ H s) (h : Sq X.K H b a xs) (h' : Sq X.K H b a ys) : xs = ys := by
  cases b with
  | true => exact I.list_inj h h'
  | false => exact I.tuple_inj h h'
end
def JEnum (K : PySem.W.Frag) (b : Bool) (a : Addr) : It where
  go := fun i H => ∃ (xs : List V) (x : V), Sq K H b a xs ∧ xs[i]? = some x
  yld := fun i H v H' => ∃ T x, v = .ref T ∧ H T = none ∧ H' = upd H T (.tup [.int (i : Nat), x]) ∧ ∀ xs, Sq K H b a xs → xs[i]? = some x
  stop := fun i H => ∃ xs : List V, Sq K H b a xs ∧ xs.length ≤ i
theorem turn_enumSq [Tables] {P : Program} {w : World} {K : PySem.W.Frag} {elts : List Expr} {kk : Nat} {tpos : Pos} {b : Bool} (a e it : Addr) :
    Turn P w K (.Tuple elts kk tpos) (JEnum K b a) [e, it] e (fun i h => (∃ old, IsEnum h e it ((i : Nat) : Int) old) ∧ IsIt h b it a i ∧ e ≠ it ∧ a ≠ it ∧ e ≠ a) where
  mem := by simp
  obj := fun i h st c hc => by
    obtain ⟨⟨old, he⟩, hi, _⟩ := st
    have hc' : c = e ∨ c = it := by simpa using hc
    rcases hc' with z | z
    · subst z; exact ⟨_, he, fun v q => nomatch q⟩
    · subst z; exact hi.ob
  keep := fun i h h' st k => let ⟨⟨old, he⟩, hi, r⟩ := st; ⟨⟨old, k e (by simp) _ he⟩, hi.at fun o q => k it (by simp) o q, r⟩
  item := by
    intro X hP hw hK hc i pins s σ H E I hf st hg
    subst hP hw hK
    obtain ⟨⟨old, he⟩, hit, hne, hai, hea⟩ := st
    obtain ⟨xs, x, hq, hx⟩ := hg
    obtain ⟨its, rv, p⟩ := Inv.sq I hq
    obtain ⟨u, hu, ru⟩ := rv.get hx
    have hel : e < s.heap.objs.size := Heap.lt_size he
    have hil : it < s.heap.objs.size := let ⟨_, q, _⟩ := hit.ob; Heap.lt_size q
    have hlt : i < its.toArray.size := by
      rw [List.size_toArray]
      exact (List.getElem?_eq_some_iff.mp hu).1
    have ev : e ∉ [it, a] := by simp [hne, hea]
    refine wpAny_pyNext_enum_itemD (drawsSq (b := b) (show X.A.in1.handled = none from I.ok.hd hc) it a hai its.toArray) he ⟨hit, p⟩ hlt hne ev fun y h' tk hy ho hst hT hsz hk => ?_
    have hyu : y = u := by
      rw [show its.toArray[i]? = its[i]? from by simp, hu] at hy
      exact (Option.some.inj hy).symm
    subst hyu
    refine ⟨_, rfl, wpAny_letOwnedTupleGo_enum (s := { s with heap := h', toks := tk + 1 }) ho fun h'' he' sb => ?_⟩
    have hT2 := (sb.2 _ (Nat.ne_of_gt hel)).trans hT
    have keep : ∀ c ob, c ∉ [e, it] → s.heap.get? c = some ob → h''.get? c = some ob := fun c ob hb q => by
      have n1 : c ≠ e := fun z => hb (by simp [z])
      have n2 : c ≠ it := fun z => hb (by simp [z])
      exact (sb.2 c n1).trans (hk c ob n1 n2 q)
    have new : ObjOk X.prog X.w (upd H s.heap.objs.size (.tup [.int (i : Nat), x])) h'' s.heap.objs.size (.tup [.int (i : Nat), x]) :=
      ⟨Nat.le_trans (show 2 ≤ 1000 by decide) (by decide), [.int i tk, y], .cons ⟨_, rfl⟩ (.cons ru .nil), ⟨_, hT2, rfl, _, rfl⟩⟩
    have I1 : Inv X pins σ (upd H s.heap.objs.size (.tup [.int (i : Nat), x])) { s with heap := h'', toks := tk + 1 } := I.turnedNew (ch := [e, it]) keep hf (Nat.le_refl _) new
    refine ⟨.ref s.heap.objs.size, _, I1, rfl, ⟨_, x, rfl, I.hok.fresh (Nat.le_refl _), rfl, fun zs hz => by rw [Inv.sq_inj I hz hq]; exact hx⟩, ⟨⟨y, ?_⟩, hst.1.at fun o q => (sb.2 it (Ne.symm hne)).trans q, hne, hai, hea⟩, fun c hcm => ?_⟩
    · rw [show ((i + 1 : Nat) : Int) = (i : Int) + 1 by omega]; exact he'
    · have hlc : c < s.heap.objs.size := by
        have hc' : c = e ∨ c = it := by simpa using hcm
        rcases hc' with z | z <;> rw [z] <;> assumption
      rw [upd_ne (Nat.ne_of_lt hlc)]
      exact (hf c hcm).1
  done := by
    intro X hP hw hK hc i pins s σ H E I hf st hg
    subst hP hw hK
    obtain ⟨⟨old, he⟩, hit, hne, hai, hea⟩ := st
    obtain ⟨xs, hq, hx⟩ := hg
    obtain ⟨its, rv, p⟩ := Inv.sq I hq
    obtain ⟨f0, f1, f2, f3, f4, f5⟩ := hf it (by simp)
    have hT : s.TypeIs (.ref e) "enumerate" := ⟨_, he, rfl⟩
    have hnone : its.toArray[i]? = none := by
      have hl := rv.length
      simp
      omega
    unfold pyNext
    refine wpAny_bind (wpAny_attempt (wpAny_callSpecial?_slot (name := Str.ofString "__next__") hT F.slot_enumerate_next
      (wpAny_call_entry F.slot_enumerate_next hT F.entry_enumerate_next ?_ (F.args_enumerate_next_1 _))))
    show wpAny _ _ (field (.ref e) 2 >>= _) _ _ _
    refine wpAny_bind (wpAny_field he rfl (x := .ref it) rfl ?_)
    refine wpAny_bind (end_sq (show X.A.in1.handled = none from I.ok.hd hc) hit p hnone fun h' x hx' hcls => ?_)
    obtain ⟨o, ho, hcl⟩ := hcls
    refine wpAny_bind (wpAny_isInstance (T := "StopIteration") (b := true) ⟨o, ho, hcl⟩ isSubtype_stop ?_)
    exact wpAny_pure ⟨rfl, I.turned (t' := s.toks) (fun c o hb q => hx' c o hb q) f0 f1 f3 f4 f5⟩
  self := fun A i s Q E st h => let ⟨⟨_, he⟩, _⟩ := st; wpAny_pyIter_enum he h
end PI
set_option autoImplicit false
set_option Elab.async false
set_option linter.all false
set_option maxRecDepth 100000
set_option autoImplicit false
set_option maxHeartbeats 2000000
/-! Pi9: zip over lists and tuples, mixed; enumerate and zip as sources. -/
namespace PI
open PySem PySem.Spec PyProof.Rows L2
open R (RD_bnd)
section
variable [Tables] {prog : Program} {w : World} {A : Around} {E : Value → Shared → Prop} {s : Shared} {b1 b2 : Bool}
omit [Tables] in
/-- zip's next draw: the first part, up to the first iterator -/
theorem zipSq_item {z TI TO i1 i2 l1 l2 : Addr} {k1 k2 : Nat} {xs ys : Array Value} {x y a b : Value} {Q : Value → Shared → Prop} (D : ZipApart z TI TO i1 i2 l1 l2)
    (hz : IsZip s.heap z TI TO .none) (hTI : IsPair s.heap TI (.ref i1) (.ref i2)) (hTO : IsPair s.heap TO a b)
    (h1 : IsIt s.heap b1 i1 l1 k1) (h2 : IsIt s.heap b2 i2 l2 k2) (hl1 : IsSq s.heap b1 l1 xs) (hl2 : IsSq s.heap b2 l2 ys) (hx : xs[k1]? = some x) (hy : ys[k2]? = some y)
    (hQ : ∀ h', IsZip h' z TI TO (rawInt s.heap.objs.size) → IsPair h' TO x y → IsIt h' b1 i1 l1 (k1 + 1) → IsIt h' b2 i2 l2 (k2 + 1) → IsPair h' s.heap.objs.size x y →
      (∀ c o, c ≠ z → c ≠ TO → c ≠ i1 → c ≠ i2 → s.heap.get? c = some o → h'.get? c = some o) → Q (.ref s.heap.objs.size) { s with heap := h' }) :
    wpAny (model prog w) A (Builtin.«zip.__next__» ⟨[.ref z], []⟩) (fun fin s' => ∃ v, fin = .done (.ret v) ∧ Q v s') E s := by
  show wpAny _ _ (field (.ref z) 2 >>= _) _ _ _
  refine wpAny_bind (wpAny_field hz rfl (x := .bool false) rfl ?_)
  show wpAny _ _ (field (.ref z) 3 >>= _) _ _ _
  refine wpAny_bind (wpAny_field hz rfl (x := .ref TI) rfl (wpAny_bind (wpAny_seqItems hTI rfl ?_)))
  show wpAny _ _ (Builtin.SmallTypes.ownedTupleIsFree (.ref z) >>= _) _ _ _
  unfold Builtin.SmallTypes.ownedTupleIsFree
  refine wpAny_bind (wpAny_bind (wpAny_field hz rfl (x := .none) rfl (wpAny_pure ?_)))
  simp only [if_true]
  refine wpAny_bind (wpAny_rule (wpAny_bind (wpAny_field hz rfl (x := .ref TO) rfl (wpAny_bind (wpAny_setField_rec hz (by simp) fun ha hza hsa => ?_)))))
  have ka : ∀ c o, c ≠ z → s.heap.get? c = some o → ha.get? c = some o := hsa.extBut
  have za : IsZip ha z TI TO .ellipsis := hza
  refine wpAny_bind ?_
  simp only [List.zipIdx_cons, List.zipIdx_nil, List.forIn_cons, List.forIn_nil]
  refine wpAny_bind (wpAny_bind (wpAny_onRaise ?_))
  show wpAny _ _ (Builtin.SmallTypes.nextOf (.ref i1) >>= _) _ _ _
  refine wpAny_bind (next_sq (h1.at fun o e => ka _ o D.i1z e) (hl1.at fun o e => ka _ o D.l1z e) hx fun hb hib hsb => wpAny_pure ?_)
  have kb : ∀ c o, c ≠ z → c ≠ i1 → s.heap.get? c = some o → hb.get? c = some o := fun c o n1 n2 e => hsb.extBut c o n2 (ka c o n1 e)
  have zb : IsZip hb z TI TO .ellipsis := hsb.extBut _ _ D.i1z.symm za
  have pb : IsPair hb TO a b := kb _ _ D.TOz D.TOi1 hTO
  refine wpAny_bind (wpAny_seqItems pb rfl (wpAny_bind (wpAny_updateSeq_pair pb fun hc hpc hsc => wpAny_bind (wpAny_letGo (wpAny_pure ?_)))))
  have kc : ∀ c o, c ≠ z → c ≠ i1 → c ≠ TO → s.heap.get? c = some o → hc.get? c = some o := fun c o n1 n2 n3 e => hsc.extBut c o n3 (kb c o n1 n2 e)
  have zc : IsZip hc z TI TO .ellipsis := hsc.extBut _ _ D.TOz.symm zb
  have pc : IsPair hc TO x b := hpc
  have ic : IsIt hc b1 i1 l1 (k1 + 1) := hib.at fun o e => hsc.extBut _ o D.TOi1.symm e
  refine wpAny_bind (wpAny_bind (wpAny_onRaise ?_))
  show wpAny _ _ (Builtin.SmallTypes.nextOf (.ref i2) >>= _) _ _ _
  refine wpAny_bind (next_sq (h2.at fun o e => kc _ o D.i2z D.i12.symm D.TOi2.symm e) (hl2.at fun o e => kc _ o D.l2z D.l2i1 D.l2TO e) hy fun hd hid hsd => wpAny_pure ?_)
  have kd : ∀ c o, c ≠ z → c ≠ TO → c ≠ i1 → c ≠ i2 → s.heap.get? c = some o → hd.get? c = some o := fun c o n1 n2 n3 n4 e => hsd.extBut c o n4 (kc c o n1 n3 n2 e)
  have zd : IsZip hd z TI TO .ellipsis := hsd.extBut _ _ D.i2z.symm zc
  have pd : IsPair hd TO x b := hsd.extBut _ _ D.TOi2 pc
  have jd : IsIt hd b1 i1 l1 (k1 + 1) := ic.at fun o e => hsd.extBut _ o D.i12 e
  refine wpAny_bind (wpAny_seqItems pd rfl (wpAny_bind (wpAny_updateSeq_pair pd fun he hpe hse => wpAny_bind (wpAny_letGo (wpAny_pure (wpAny_pure ?_))))))
  have ke : ∀ c o, c ≠ z → c ≠ TO → c ≠ i1 → c ≠ i2 → s.heap.get? c = some o → he.get? c = some o := fun c o n1 n2 n3 n4 e => hse.extBut c o n2 (kd c o n1 n2 n3 n4 e)
  have ze : IsZip he z TI TO .ellipsis := hse.extBut _ _ D.TOz.symm zd
  have pe : IsPair he TO x y := hpe
  have je : IsIt he b1 i1 l1 (k1 + 1) := jd.at fun o e => hse.extBut _ o D.TOi1.symm e
  have me : IsIt he b2 i2 l2 (k2 + 1) := hid.at fun o e => hse.extBut _ o D.TOi2.symm e
  have size : he.objs.size = s.heap.objs.size := by rw [hse.1, hsd.1, hsc.1, hsb.1, hsa.1]
  have lz : z < he.objs.size := Heap.lt_size ze
  refine wpAny_bind (wpAny_seqItems pe rfl (wpAny_bind (wpAny_newTuple ?_)))
  show wpAny _ _ (Builtin.SmallTypes.ownedTupleHandOut (.ref z) (.ref he.objs.size) >>= _) _ _ _
  unfold Builtin.SmallTypes.ownedTupleHandOut
  have zf : IsZip (he.push { cls := .type "tuple", data := .seq #[x, y] }) z TI TO .ellipsis := Heap.get?_push_of_some _ ze
  refine wpAny_bind (wpAny_bind (wpAny_setField_rec zf (by simp) fun hg hzg hsg => ?_))
  have zg : IsZip hg z TI TO (rawInt he.objs.size) := hzg
  refine wpAny_setField_rec zg (by simp) fun hh hzh hsh => ?_
  have zh : IsZip hh z TI TO (rawInt he.objs.size) := hzh
  have up : ∀ c o, c ≠ z → (he.push { cls := .type "tuple", data := .seq #[x, y] }).get? c = some o → hh.get? c = some o := fun c o n e => hsh.extBut c o n (hsg.extBut c o n e)
  have th : IsPair hh he.objs.size x y := up _ _ (Nat.ne_of_gt lz) (Heap.get?_push_size _ rfl)
  rw [size] at zh th
  refine wpAny_pure ⟨_, rfl, ?_⟩
  show Q (.ref he.objs.size) _
  rw [size]
  exact hQ hh zh (up _ _ D.TOz (Heap.get?_push_of_some _ pe)) (je.at fun o e => up _ o D.i1z (Heap.get?_push_of_some _ e)) (me.at fun o e => up _ o D.i2z (Heap.get?_push_of_some _ e)) th
    fun c o n1 n2 n3 n4 e => up c o n1 (Heap.get?_push_of_some _ (ke c o n1 n2 n3 n4 e))
omit [Tables] in
theorem zipSq_end {z TI TO i1 i2 l1 l2 : Addr} {k1 k2 : Nat} {xs ys : Array Value} {a b : Value} {Q : Fin → Shared → Prop} (hh : A.handled = none) (D : ZipApart z TI TO i1 i2 l1 l2)
    (hz : IsZip s.heap z TI TO .none) (hTI : IsPair s.heap TI (.ref i1) (.ref i2)) (hTO : IsPair s.heap TO a b)
    (h1 : IsIt s.heap b1 i1 l1 k1) (h2 : IsIt s.heap b2 i2 l2 k2) (hl1 : IsSq s.heap b1 l1 xs) (hl2 : IsSq s.heap b2 l2 ys) (hend : xs[k1]? = none ∨ ys[k2]? = none)
    (hE : ∀ h' e, (∀ c o, c ≠ z → c ≠ TO → c ≠ i1 → c ≠ i2 → s.heap.get? c = some o → h'.get? c = some o) → (∃ o, h'.get? e = some o ∧ o.cls = .type "StopIteration") → E (.ref e) { s with heap := h' }) :
    wpAny (model prog w) A (Builtin.«zip.__next__» ⟨[.ref z], []⟩) Q E s := by
  show wpAny _ _ (field (.ref z) 2 >>= _) _ _ _
  refine wpAny_bind (wpAny_field hz rfl (x := .bool false) rfl ?_)
  show wpAny _ _ (field (.ref z) 3 >>= _) _ _ _
  refine wpAny_bind (wpAny_field hz rfl (x := .ref TI) rfl (wpAny_bind (wpAny_seqItems hTI rfl ?_)))
  show wpAny _ _ (Builtin.SmallTypes.ownedTupleIsFree (.ref z) >>= _) _ _ _
  unfold Builtin.SmallTypes.ownedTupleIsFree
  refine wpAny_bind (wpAny_bind (wpAny_field hz rfl (x := .none) rfl (wpAny_pure ?_)))
  simp only [if_true]
  refine wpAny_bind (wpAny_rule (wpAny_bind (wpAny_field hz rfl (x := .ref TO) rfl (wpAny_bind (wpAny_setField_rec hz (by simp) fun ha hza hsa => ?_)))))
  have ka : ∀ c o, c ≠ z → s.heap.get? c = some o → ha.get? c = some o := hsa.extBut
  have za : IsZip ha z TI TO .ellipsis := hza
  -- a stop leaves through zip's own field
  have out : ∀ {h' : Heap} {e : Addr}, IsZip h' z TI TO .ellipsis → (∃ o, h'.get? e = some o ∧ o.cls = .type "StopIteration") → (∀ c o, c ≠ z → c ≠ TO → c ≠ i1 → c ≠ i2 → s.heap.get? c = some o → h'.get? c = some o) →
      wpAny (model prog w) A (setField (.ref z) 0 .none) (fun _ s' => E (.ref e) s') E { s with heap := h' } := fun {h' e} hz' ⟨o, ho, hc⟩ k => by
    have ne : e ≠ z := fun q => by
      subst q
      rw [hz'] at ho; cases ho; simp at hc
    exact wpAny_setField_rec hz' (by simp) fun h3 _ hs3 => hE h3 e (fun c o n1 n2 n3 n4 q => hs3.extBut c o n1 (k c o n1 n2 n3 n4 q)) ⟨o, hs3.extBut _ _ ne ho, hc⟩
  refine wpAny_bind ?_
  simp only [List.zipIdx_cons, List.zipIdx_nil, List.forIn_cons, List.forIn_nil]
  refine wpAny_bind (wpAny_bind (wpAny_onRaise ?_))
  show wpAny _ _ (Builtin.SmallTypes.nextOf (.ref i1) >>= _) _ _ _
  have g1 := h1.at fun o e => ka _ o D.i1z e
  have q1 := hl1.at fun o e => ka _ o D.l1z e
  cases hx : xs[k1]? with
  | none =>
    refine wpAny_bind (end_sq hh g1 q1 hx fun hb e hsb he => ?_)
    exact out (hsb _ _ D.i1z.symm za) he fun c o n1 _ n3 _ q => hsb c o n3 (ka c o n1 q)
  | some x =>
    have hy : ys[k2]? = none := hend.resolve_left (by rw [hx]; simp)
    refine wpAny_bind (next_sq g1 q1 hx fun hb hib hsb => wpAny_pure ?_)
    have kb : ∀ c o, c ≠ z → c ≠ i1 → s.heap.get? c = some o → hb.get? c = some o := fun c o n1 n2 e => hsb.extBut c o n2 (ka c o n1 e)
    have pb : IsPair hb TO a b := kb _ _ D.TOz D.TOi1 hTO
    have zb : IsZip hb z TI TO .ellipsis := hsb.extBut _ _ D.i1z.symm za
    refine wpAny_bind (wpAny_seqItems pb rfl (wpAny_bind (wpAny_updateSeq_pair pb fun hc hpc hsc => wpAny_bind (wpAny_letGo (wpAny_pure ?_)))))
    have kc : ∀ c o, c ≠ z → c ≠ i1 → c ≠ TO → s.heap.get? c = some o → hc.get? c = some o := fun c o n1 n2 n3 e => hsc.extBut c o n3 (kb c o n1 n2 e)
    refine wpAny_bind (wpAny_bind (wpAny_onRaise ?_))
    show wpAny _ _ (Builtin.SmallTypes.nextOf (.ref i2) >>= _) _ _ _
    refine wpAny_bind (end_sq hh (h2.at fun o e => kc _ o D.i2z D.i12.symm D.TOi2.symm e) (hl2.at fun o e => kc _ o D.l2z D.l2i1 D.l2TO e) hy fun hd e hsd he => ?_)
    exact out (hsd _ _ D.i2z.symm (hsc.extBut _ _ D.TOz.symm zb)) he fun c o n1 n2 n3 n4 q => hsd c o n4 (kc c o n1 n3 n2 q)
def zH1 (h : Heap) (b1 : Bool) (l1 : Addr) : Heap := h.push { cls := .type (itTy b1), data := .fields #[.ref l1, .int 0 0] }
def zH2 (h : Heap) (b1 b2 : Bool) (l1 l2 : Addr) : Heap := (zH1 h b1 l1).push { cls := .type (itTy b2), data := .fields #[.ref l2, .int 0 0] }
def zH3 (h : Heap) (b1 b2 : Bool) (l1 l2 : Addr) : Heap := (zH2 h b1 b2 l1 l2).push { cls := .type "tuple", data := .seq #[.ref h.objs.size, .ref (zH1 h b1 l1).objs.size] }
def zH4 (h : Heap) (b1 b2 : Bool) (l1 l2 : Addr) : Heap := (zH3 h b1 b2 l1 l2).push { cls := .type "tuple", data := .seq #[.none, .none] }
def zH5 (h : Heap) (b1 b2 : Bool) (l1 l2 : Addr) : Heap := (zH4 h b1 b2 l1 l2).push { cls := .type "zip", data := .fields #[.none, .bool false, .bool false, .ref (zH2 h b1 b2 l1 l2).objs.size, .ref (zH3 h b1 b2 l1 l2).objs.size] }
omit [Tables] in
theorem meets_zipSq (l1 l2 : Addr) (xs ys : Array Value) :
    Meets (Builtin.«zip.__new__» ⟨[.type "zip", .ref l1, .ref l2], []⟩) (fun _ R s => IsSq s.heap b1 l1 xs ∧ IsSq s.heap b2 l2 ys ∧ R (.ok (.ret (.ref (zH4 s.heap b1 b2 l1 l2).objs.size))) { s with heap := zH5 s.heap b1 b2 l1 l2 }) :=
  .of_wp fun prog w A R s h => by
    obtain ⟨hp, g, d, tk, os⟩ := s
    obtain ⟨hl1, hl2, h⟩ := h
    have hsub := sub_zip
    have hL1 : IsSq (Shared.heap ⟨hp, g, d, tk, os⟩) b1 l1 xs := hl1
    have hL2 : IsSq (Shared.heap ⟨hp.push { cls := .type (itTy b1), data := .fields #[.ref l1, .int 0 0] }, g, d, tk, os⟩) b2 l2 ys := hl2.at fun o e => Heap.get?_push_of_some _ e
    wp_walk using iter_sq hL1, iter_sq hL2
    exact ⟨_, rfl, h⟩
omit [Tables] in
theorem call_zipSq {l1 l2 : Addr} {xs ys : Array Value} {Q : Value → Shared → Prop} (hl1 : IsSq s.heap b1 l1 xs) (hl2 : IsSq s.heap b2 l2 ys)
    (h : ∀ h', IsZip h' (s.heap.objs.size + 4) (s.heap.objs.size + 2) (s.heap.objs.size + 3) .none → IsPair h' (s.heap.objs.size + 2) (.ref s.heap.objs.size) (.ref (s.heap.objs.size + 1)) →
      IsPair h' (s.heap.objs.size + 3) .none .none → IsIt h' b1 s.heap.objs.size l1 0 → IsIt h' b2 (s.heap.objs.size + 1) l2 0 → (∀ c o, s.heap.get? c = some o → h'.get? c = some o) → Q (.ref (s.heap.objs.size + 4)) { s with heap := h' }) :
    wpAny (model prog w) A (call (.type "zip") [.ref l1, .ref l2]) Q E s := by
  refine callType_new F.called_zip (by decide) (F.typeCall_zip_2 _ _) (F.newCall_zip_2 _ _) (fun obj => F.args_object_init_3 obj _ _) F.entry_zip_new (meets_zipSq (b1 := b1) (b2 := b2) l1 l2 xs ys) ⟨hl1, hl2, ?_⟩
  have z1 : (zH1 s.heap b1 l1).objs.size = s.heap.objs.size + 1 := Heap.size_push ..
  have z2 : (zH2 s.heap b1 b2 l1 l2).objs.size = s.heap.objs.size + 2 := by unfold zH2; rw [Heap.size_push, z1]
  have z3 : (zH3 s.heap b1 b2 l1 l2).objs.size = s.heap.objs.size + 3 := by unfold zH3; rw [Heap.size_push, z2]
  have z4 : (zH4 s.heap b1 b2 l1 l2).objs.size = s.heap.objs.size + 4 := by unfold zH4; rw [Heap.size_push, z3]
  have k1 : ∀ c o, s.heap.get? c = some o → (zH1 s.heap b1 l1).get? c = some o := fun c o e => Heap.get?_push_of_some _ e
  have k2 : ∀ c o, (zH1 s.heap b1 l1).get? c = some o → (zH2 s.heap b1 b2 l1 l2).get? c = some o := fun c o e => Heap.get?_push_of_some _ e
  have k3 : ∀ c o, (zH2 s.heap b1 b2 l1 l2).get? c = some o → (zH3 s.heap b1 b2 l1 l2).get? c = some o := fun c o e => Heap.get?_push_of_some _ e
  have k4 : ∀ c o, (zH3 s.heap b1 b2 l1 l2).get? c = some o → (zH4 s.heap b1 b2 l1 l2).get? c = some o := fun c o e => Heap.get?_push_of_some _ e
  have k5 : ∀ c o, (zH4 s.heap b1 b2 l1 l2).get? c = some o → (zH5 s.heap b1 b2 l1 l2).get? c = some o := fun c o e => Heap.get?_push_of_some _ e
  have i1 : IsIt (zH1 s.heap b1 l1) b1 s.heap.objs.size l1 0 := IsIt.new
  have i2 : IsIt (zH2 s.heap b1 b2 l1 l2) b2 (s.heap.objs.size + 1) l2 0 := by rw [← z1]; exact IsIt.new
  have g3 : IsPair (zH3 s.heap b1 b2 l1 l2) (s.heap.objs.size + 2) (.ref s.heap.objs.size) (.ref (s.heap.objs.size + 1)) := by rw [← z2, ← z1]; exact Heap.get?_push_size _ rfl
  have g4 : IsPair (zH4 s.heap b1 b2 l1 l2) (s.heap.objs.size + 3) .none .none := by rw [← z3]; exact Heap.get?_push_size _ rfl
  have g5 : IsZip (zH5 s.heap b1 b2 l1 l2) (s.heap.objs.size + 4) (s.heap.objs.size + 2) (s.heap.objs.size + 3) .none := by rw [← z4, ← z2, ← z3]; exact Heap.get?_push_size _ rfl
  show _ ∧ _
  rw [z4]
  exact ⟨⟨_, g5, rfl⟩, h _ g5 (k5 _ _ (k4 _ _ g3)) (k5 _ _ g4) (i1.at fun o e => k5 _ o (k4 _ o (k3 _ o (k2 _ o e)))) (i2.at fun o e => k5 _ o (k4 _ o (k3 _ o e))) fun c o e => k5 c o (k4 c o (k3 c o (k2 c o (k1 c o e))))⟩
end
def JZip (K : PySem.W.Frag) (b1 b2 : Bool) (a b : Addr) : It where
  go := fun i H => ∃ (xs ys : List V) (x y : V), Sq K H b1 a xs ∧ Sq K H b2 b ys ∧ xs[i]? = some x ∧ ys[i]? = some y
  yld := fun i H v H' => ∃ T x y, v = .ref T ∧ H T = none ∧ H' = upd H T (.tup [x, y]) ∧ (∀ xs, Sq K H b1 a xs → xs[i]? = some x) ∧ ∀ ys, Sq K H b2 b ys → ys[i]? = some y
  stop := fun i H => ∃ xs ys : List V, Sq K H b1 a xs ∧ Sq K H b2 b ys ∧ (xs.length ≤ i ∨ ys.length ≤ i)
theorem turn_zipSq [Tables] {P : Program} {w : World} {K : PySem.W.Frag} {elts : List Expr} {kk : Nat} {tpos : Pos} {b1 b2 : Bool} {a b z TI TO i1 i2 : Addr} (D : ZipApart z TI TO i1 i2 a b) :
    Turn P w K (.Tuple elts kk tpos) (JZip K b1 b2 a b) [z, TI, TO, i1, i2] z (fun i h => IsZip h z TI TO .none ∧ IsPair h TI (.ref i1) (.ref i2) ∧ (∃ x y, IsPair h TO x y) ∧ IsIt h b1 i1 a i ∧ IsIt h b2 i2 b i) where
  mem := by simp
  obj := fun i h st c hc => by
    obtain ⟨hz, hTI, ⟨x, y, hTO⟩, h1, h2⟩ := st
    have hc' : c = z ∨ c = TI ∨ c = TO ∨ c = i1 ∨ c = i2 := by simpa using hc
    rcases hc' with q | q | q | q | q <;> subst q
    · exact ⟨_, hz, fun v q => nomatch q⟩
    · exact ⟨_, hTI, fun v q => nomatch q⟩
    · exact ⟨_, hTO, fun v q => nomatch q⟩
    · exact h1.ob
    · exact h2.ob
  keep := fun i h h' st k => by
    obtain ⟨hz, hTI, ⟨x, y, hTO⟩, h1, h2⟩ := st
    exact ⟨k z (by simp) _ hz, k TI (by simp) _ hTI, ⟨x, y, k TO (by simp) _ hTO⟩, h1.at fun o q => k i1 (by simp) o q, h2.at fun o q => k i2 (by simp) o q⟩
  item := by
    intro X hP hw hK hc i pins s σ H E I hf st hg
    subst hP hw hK
    obtain ⟨hz, hTI, ⟨x0, y0, hTO⟩, h1, h2⟩ := st
    obtain ⟨xs, ys, x, y, hqx, hqy, hx, hy⟩ := hg
    obtain ⟨its, rv, p⟩ := Inv.sq I hqx
    obtain ⟨its2, rv2, p2⟩ := Inv.sq I hqy
    obtain ⟨u, hu, ru⟩ := rv.get hx
    obtain ⟨u2, hu2, ru2⟩ := rv2.get hy
    have hzl : z < s.heap.objs.size := Heap.lt_size hz
    have hT : s.TypeIs (.ref z) "zip" := ⟨_, hz, rfl⟩
    unfold pyNext
    refine wpAny_bind (wpAny_attempt (wpAny_callSpecial?_slot (name := Str.ofString "__next__") hT F.slot_zip_next (wpAny_call_entry F.slot_zip_next hT F.entry_zip_next
      (zipSq_item D hz hTI hTO h1 h2 p p2 (x := u) (y := u2) (by simpa using hu) (by simpa using hu2) fun h' z' TO' h1' h2' hpair hk => wpAny_pure ?_) (F.args_zip_next_1 _))))
    refine ⟨_, rfl, wpAny_letOwnedTupleGo_zip (s := { s with heap := h' }) z' fun h'' z'' sb => ?_⟩
    have hT2 := (sb.2 _ (Nat.ne_of_gt hzl)).trans hpair
    have keep : ∀ c ob, c ∉ [z, TI, TO, i1, i2] → s.heap.get? c = some ob → h''.get? c = some ob := fun c ob hb q => by
      simp only [List.mem_cons, List.not_mem_nil, or_false, not_or] at hb
      exact (sb.2 c hb.1).trans (hk c ob hb.1 hb.2.2.1 hb.2.2.2.1 hb.2.2.2.2 q)
    have new : ObjOk X.prog X.w (upd H s.heap.objs.size (.tup [x, y])) h'' s.heap.objs.size (.tup [x, y]) :=
      ⟨Nat.le_trans (show 2 ≤ 1000 by decide) (by decide), [u, u2], .cons ru (.cons ru2 .nil), ⟨_, hT2, rfl, _, rfl⟩⟩
    have I1 : Inv X pins σ (upd H s.heap.objs.size (.tup [x, y])) { s with heap := h'' } := I.turnedNew (t' := s.toks) (ch := [z, TI, TO, i1, i2]) keep hf (Nat.le_refl _) new
    refine ⟨.ref s.heap.objs.size, _, I1, rfl, ⟨_, x, y, rfl, I.hok.fresh (Nat.le_refl _), rfl, fun l hl => by rw [Inv.sq_inj I hl hqx]; exact hx, fun l hl => by rw [Inv.sq_inj I hl hqy]; exact hy⟩, ⟨z'', (sb.2 _ D.TIz).trans (hk _ _ D.TIz D.TITO D.TIi1 D.TIi2 hTI), ⟨u, u2, (sb.2 _ D.TOz).trans TO'⟩, h1'.at fun o q => (sb.2 _ D.i1z).trans q, h2'.at fun o q => (sb.2 _ D.i2z).trans q⟩, fun c hcm => ?_⟩
    have hlt : c < s.heap.objs.size := by
      have hc' : c = z ∨ c = TI ∨ c = TO ∨ c = i1 ∨ c = i2 := by simpa using hcm
      rcases hc' with q | q | q | q | q <;> rw [q]
      · exact hzl
      · exact Heap.lt_size hTI
      · exact Heap.lt_size hTO
      · obtain ⟨_, e, _⟩ := h1.ob; exact Heap.lt_size e
      · obtain ⟨_, e, _⟩ := h2.ob; exact Heap.lt_size e
    rw [upd_ne (Nat.ne_of_lt hlt)]
    exact (hf c hcm).1
  done := by
    intro X hP hw hK hc i pins s σ H E I hf st hg
    subst hP hw hK
    obtain ⟨hz, hTI, ⟨x0, y0, hTO⟩, h1, h2⟩ := st
    obtain ⟨xs, ys, hqx, hqy, hend⟩ := hg
    obtain ⟨its, rv, p⟩ := Inv.sq I hqx
    obtain ⟨its2, rv2, p2⟩ := Inv.sq I hqy
    have hT : s.TypeIs (.ref z) "zip" := ⟨_, hz, rfl⟩
    have he : its.toArray[i]? = none ∨ its2.toArray[i]? = none := by
      have l1 := rv.length
      have l2 := rv2.length
      rcases hend with q | q
      · left; simp; omega
      · right; simp; omega
    unfold pyNext
    refine wpAny_bind (wpAny_attempt (wpAny_callSpecial?_slot (name := Str.ofString "__next__") hT F.slot_zip_next (wpAny_call_entry F.slot_zip_next hT F.entry_zip_next
      (zipSq_end (show X.A.in1.handled = none from I.ok.hd hc) D hz hTI hTO h1 h2 p p2 he fun h' e hk hst => ?_) (F.args_zip_next_1 _))))
    obtain ⟨o, ho, hcl⟩ := hst
    refine wpAny_bind (wpAny_isInstance (T := "StopIteration") (b := true) ⟨o, ho, hcl⟩ isSubtype_stop ?_)
    refine wpAny_pure ⟨rfl, I.turnedL (t' := s.toks) (ch := [z, TI, TO, i1, i2]) (fun c ob hb q => ?_) hf⟩
    simp only [List.mem_cons, List.not_mem_nil, or_false, not_or] at hb
    exact hk c ob hb.1 hb.2.2.1 hb.2.2.2.1 hb.2.2.2.2 q
  self := fun A i s Q E st h => wpAny_pyIter_zip st.1 h
/-! ### as sources -/
theorem enum_get : ∀ (ds : List D) (k : Int) (i : Nat), (enumFrom k ds)[i]? = (ds[i]?).map fun d => .tuple [.int (k + i), d]
  | [], k, i => by simp [enumFrom]
  | d :: ds, k, 0 => by simp [enumFrom]
  | d :: ds, k, i + 1 => by
    simp only [enumFrom, List.getElem?_cons_succ, enum_get ds (k + 1) i]
    congr 1
    funext d
    rw [show k + 1 + (i : Int) = k + ((i + 1 : Nat) : Int) by omega]
theorem enum_len : ∀ (ds : List D) (k : Int), (enumFrom k ds).length = ds.length
  | [], _ => rfl
  | d :: ds, k => by simp [enumFrom, enum_len ds]
theorem zip_get : ∀ (ds es : List D) (i : Nat) {p : D}, (zipD ds es)[i]? = some p → ∃ d e, ds[i]? = some d ∧ es[i]? = some e ∧ p = .tuple [d, e]
  | [], es, i, p, h => by simp [zipD] at h
  | d :: ds, [], i, p, h => by simp [zipD] at h
  | d :: ds, e :: es, 0, p, h => by simp [zipD] at h; exact ⟨d, e, rfl, rfl, h.symm⟩
  | d :: ds, e :: es, i + 1, p, h => by simp only [zipD, List.getElem?_cons_succ] at h ⊢; exact zip_get ds es i h
theorem zip_len : ∀ (ds es : List D), (zipD ds es).length = min ds.length es.length
  | [], es => by simp [zipD]
  | d :: ds, [] => by simp [zipD]
  | d :: ds, e :: es => by simp [zipD, zip_len ds es]
/-- shared data as a sequence -/
theorem seq_sq {K : PySem.W.Frag} {Hs : Hp} {v : V} {d : D} {ds : List D} (h : Dq Hs v d) (e : sqOf d = .ok ds) : ∃ (b : Bool) (a : Addr) (xs : List V), v = .ref a ∧ xs.length ≤ sizeLine ∧ DqAll Hs xs ds ∧ ∀ H, Same Hs H → Sq K H b a xs := by
  cases d with
  | list es =>
    cases e
    cases h with
    | lst h1 h2 h3 => exact ⟨true, _, _, rfl, h2, h3, fun H s => SqL.of (s _ _ h1)⟩
  | tuple es =>
    cases e
    cases h with
    | tup h1 h2 h3 => exact ⟨false, _, _, rfl, h2, h3, fun H s => SqT.of (s _ _ h1)⟩
  | _ => cases e
theorem sqOf_nox (d : D) : ∀ c, sqOf d ≠ .exc c := by
  intro c h
  cases d <;> cases h
theorem src_enum {K : PySem.W.Frag} {Hs : Hp} {b : Bool} {a : Addr} {xs : List V} {ds : List D} (hd : DqAll Hs xs ds) (hq : ∀ H, Same Hs H → Sq K H b a xs) : Src (JEnum K b a) Hs (enumFrom 0 ds) := fun i H s => by
  refine ⟨fun d e => ?_, fun hl => ⟨xs, hq H s, by rw [hd.length, ← enum_len ds 0]; exact hl⟩⟩
  rw [enum_get] at e
  cases hdi : ds[i]? with
  | none => rw [hdi] at e; cases e
  | some d0 =>
    rw [hdi] at e; cases e
    obtain ⟨v, hv, dv⟩ := hd.get hdi
    refine ⟨⟨xs, v, hq H s, hv⟩, fun x H' y => ?_⟩
    obtain ⟨T, w, e1, e2, e3, e4⟩ := y
    have e5 := e4 xs (hq H s)
    rw [hv] at e5; cases e5
    refine .inr ⟨T, _, _, e1, .inl ⟨e2, e3⟩, Nat.le_trans (show 2 ≤ 1000 by decide) (by decide), rfl, .cons ?_ (.one dv)⟩
    rw [Int.zero_add]
    exact .int _
theorem src_zip {K : PySem.W.Frag} {Hs : Hp} {b1 b2 : Bool} {a b : Addr} {xs ys : List V} {ds es : List D} (hd : DqAll Hs xs ds) (he : DqAll Hs ys es) (hq : ∀ H, Same Hs H → Sq K H b1 a xs) (hr : ∀ H, Same Hs H → Sq K H b2 b ys) : Src (JZip K b1 b2 a b) Hs (zipD ds es) := fun i H s => by
  refine ⟨fun d e => ?_, fun hl => ⟨xs, ys, hq H s, hr H s, ?_⟩⟩
  · obtain ⟨d1, d2, h1, h2, rfl⟩ := zip_get ds es i e
    obtain ⟨v, hv, dv⟩ := hd.get h1
    obtain ⟨u, hu, du⟩ := he.get h2
    refine ⟨⟨xs, ys, v, u, hq H s, hr H s, hv, hu⟩, fun x H' y => ?_⟩
    obtain ⟨T, w1, w2, e1, e2, e3, e4, e5⟩ := y
    have f1 := e4 xs (hq H s)
    have f2 := e5 ys (hr H s)
    rw [hv] at f1; cases f1
    rw [hu] at f2; cases f2
    exact .inr ⟨T, _, _, e1, .inl ⟨e2, e3⟩, Nat.le_trans (show 2 ≤ 1000 by decide) (by decide), rfl, .cons dv (.one du)⟩
  · rw [zip_len] at hl
    rw [hd.length, he.length]
    omega
section
variable [Tables] {X : Cx} {E : XE} {p pos tpos : Pos} {elts : List Expr} {kk : Nat}
theorem gi_enum {e : Expr} {fe : FE} (hm : X.mg "enumerate" = none) (he : GE X E e fe) (hg : Gl X "enumerate" := by rfl) (hs : starEach [e] X.env = [(false, eval e X.env)] := by rfl) : GI X E (.Tuple elts kk tpos) (.Call (.Name "enumerate" p) [e] [] pos) (PI.iEnum fe) := by
  refine ⟨fun pins s σ H R I ⟨S, Hs, env, ok, h⟩ => ?_⟩
  refine Call_ (ld_blt I hg hm boot_enumerate (PyProof.Rows.callWith_type1 (thn ((ga_cons he ga_nil hs).run pos pins s σ H _ I (bindA ok h)) fun us s1 ⟨vs, H1, I1, r1, Hs1, z, s1', o1, d1, q⟩ => ?_) hs rfl))
  obtain ⟨ds, e1⟩ := z
  simp only at q
  split at q
  · rename_i d0 d
    obtain ⟨es, h1, q⟩ := RD.inv (sqOf_nox _) q
    cases d1 with
    | cons dv r =>
      cases r
      obtain ⟨b, a, xs, ev, hz, hd, hq⟩ := seq_sq (K := X.K) dv h1
      subst ev
      cases r1 with
      | cons r rr =>
        cases rr
        cases r
        obtain ⟨its, rv, sq⟩ := Inv.sq I1 (hq H1 o1.sub)
        refine call_enumSq sq fun h' he hit hk => wpAny_pyIter_enum he ?_
        have I2 : Inv X pins σ H1 { s1 with heap := h' } := I1.kept (t' := s1.toks) hk
        have al := sq.lt
        refine ⟨s1.heap.objs.size + 1, [s1.heap.objs.size + 1, s1.heap.objs.size], _, _, H1, rfl, I2, turn_enumSq (b := b) a (s1.heap.objs.size + 1) s1.heap.objs.size, ⟨⟨.none, he⟩, hit, Nat.succ_ne_self _, Nat.ne_of_lt al, Nat.ne_of_gt (Nat.lt_succ_of_lt al)⟩, fun c hcm => ?_, ?_⟩
        · have hle : s1.heap.objs.size ≤ c := by
            have hc' : c = s1.heap.objs.size + 1 ∨ c = s1.heap.objs.size := by simpa using hcm
            rcases hc' with z | z <;> rw [z]
            · exact Nat.le_succ _
            · exact Nat.le_refl _
          exact I1.fpOk hle (I1.hok.fresh hle)
        · exact q _ Hs1 H1 s1' o1 (by show (enumFrom 0 es).length ≤ _; rw [enum_len, ← hd.length]; exact hz) (src_enum hd hq)
  · exact q.elim
theorem gi_zip {e e2 : Expr} {fe fe2 : FE} (hm : X.mg "zip" = none) (he : GE X E e fe) (he2 : GE X E e2 fe2) (hg : Gl X "zip" := by rfl)
    (hs : starEach [e, e2] X.env = (false, eval e X.env) :: starEach [e2] X.env := by rfl) (hs2 : starEach [e2] X.env = [(false, eval e2 X.env)] := by rfl) (hpl : (backTo pos (starEach [e2] X.env)).any (·.1) = false := by rfl) : GI X E (.Tuple elts kk tpos) (.Call (.Name "zip" p) [e, e2] [] pos) (PI.iZip fe fe2) := by
  refine ⟨fun pins s σ H R I ⟨S, Hs, env, ok, h⟩ => ?_⟩
  refine Call_ (ld_blt I hg hm PyProof.Rows.boot_zip (PyProof.Rows.callWith_type1 (thn ((ga_cons he (ga_cons he2 ga_nil hs2) hs).run pos pins s σ H _ I (bindA ok h)) fun us s1 ⟨vs, H1, I1, r1, Hs1, z, s1', o1, d1, q⟩ => ?_) hs hpl))
  obtain ⟨ds, e1⟩ := z
  simp only at q
  split at q
  · rename_i d0 d d'
    obtain ⟨es, h1, q⟩ := RD.inv (sqOf_nox _) q
    obtain ⟨es2, h2, q⟩ := RD.inv (sqOf_nox _) q
    cases d1 with
    | cons dv r =>
      cases r with
      | cons dv2 r =>
        cases r
        obtain ⟨b, a, xs, ev, hz, hd, hq⟩ := seq_sq (K := X.K) dv h1
        obtain ⟨b', a', xs', ev', hz', hd', hq'⟩ := seq_sq (K := X.K) dv2 h2
        subst ev ev'
        cases r1 with
        | cons r rr =>
          cases rr with
          | cons r' rr =>
            cases rr
            cases r
            cases r'
            obtain ⟨its, rv, sq⟩ := Inv.sq I1 (hq H1 o1.sub)
            obtain ⟨its', rv', sq'⟩ := Inv.sq I1 (hq' H1 o1.sub)
            refine call_zipSq sq sq' fun h' hz hTI hTO h1 h2 hk => wpAny_pyIter_zip hz ?_
            have I2 : Inv X pins σ H1 { s1 with heap := h' } := I1.kept (t' := s1.toks) hk
            refine ⟨s1.heap.objs.size + 4, [s1.heap.objs.size + 4, s1.heap.objs.size + 2, s1.heap.objs.size + 3, s1.heap.objs.size, s1.heap.objs.size + 1], _, _, H1, rfl, I2, turn_zipSq (b1 := b) (b2 := b') (PySem.W.ktu_apart s1.heap.objs.size a a' sq.lt sq'.lt), ⟨hz, hTI, ⟨_, _, hTO⟩, h1, h2⟩, fun c hcm => ?_, ?_⟩
            · have hle : s1.heap.objs.size ≤ c := by
                simp only [List.mem_cons, List.not_mem_nil, or_false] at hcm
                rcases hcm with z | z | z | z | z <;> rw [z]
                · exact Nat.le_add_right _ _
                · exact Nat.le_add_right _ _
                · exact Nat.le_add_right _ _
                · exact Nat.le_refl _
                · exact Nat.le_add_right _ _
              exact I1.fpOk hle (I1.hok.fresh hle)
            · refine q _ Hs1 H1 s1' o1 ?_ (src_zip hd hd' hq hq')
              show (zipD es es2).length ≤ _
              rw [zip_len, ← hd.length]
              omega
  · exact q.elim
end
end PI
set_option autoImplicit false
set_option Elab.async false
set_option linter.all false
set_option maxRecDepth 100000
set_option autoImplicit false
/-! Pi10: a def's promise as callers use it; the law's own def. -/
namespace PI
open PySem PySem.Spec PyProof.Rows L2
open R (RD_bnd)
structure Prom (P : Program) (w : World) (K : PySem.W.Frag) (mg : Str → Option Value) (base : Heap) (k : Nat) (x : Str) (ps : List Str) (sp : Sp) : Prop where
  ex : ∃ f fd, mg x = some (.ref f) ∧ PySem.W.keepIn K (.ref f) = true ∧ Binds K fd ps [] ∧ FnOk P w K mg base CX0 k f fd ps sp
theorem Prom.imp {P : Program} {w : World} {K : PySem.W.Frag} {mg : Str → Option Value} {base : Heap} {k : Nat} {x : Str} {ps : List Str} {sp sp' : Sp} (G : Prom P w K mg base k x ps sp) (h : ∀ vs H Q E, sp' vs H Q E → sp vs H Q E) : Prom P w K mg base k x ps sp' := by
  obtain ⟨f, fd, h1, h2, h3, h4⟩ := G.ex
  exact ⟨f, fd, h1, h2, h3, h4.imp h⟩
theorem Prom.mk' {P : Program} {w : World} {K : PySem.W.Frag} {mg : Str → Option Value} {base : Heap} {k : Nat} {x : Str} {ps : List Str} {sp : Sp} {q : Str} {st : Stmt} {f : Addr} {fd : FuncData} (F : Fun K x q st f fd) (hm : mg x = some (.ref f)) (hb : Binds K fd ps []) (h : FnOk P w K mg base CX0 k f fd ps sp) : Prom P w K mg base k x ps sp := ⟨f, fd, hm, F.kp, hb, h⟩
theorem hu64 {k : Nat} {A : Around} (hr : Room k A) : A.units + 64 < cLine := by have := hr.un; omega
theorem hu65 {k : Nat} {A : Around} (hr : Room k A) : A.units + 65 < cLine := by have := hr.un; omega
section
variable [Tables] {X : Cx} {k : Nat} {ps : List Str} {x : Str} {p pos : Pos} {e a : Expr} {es : List Expr} {fs : List FE} {n : Nat}
theorem ge_callP {F : List D → R RV} (G : Prom X.prog X.w X.K X.mg X.base k x ps (spF Z0 F n)) (hr : Room k X.A) (ha : GA X F0 (e :: es) (fArgs fs)) (hn : fs.length = n := by rfl) (hg : Gl X x := by rfl)
    (he : starEach (e :: es) X.env = (false, eval e X.env) :: starEach es X.env := by rfl) (hpl : (backTo pos (starEach es X.env)).any (·.1) = false := by rfl) (hdb : (x == ("__debug__" : Str)) = false := by decide) : GE X F0 (.Call (.Name x p) (e :: es) [] pos) (fCall F fs) := by
  obtain ⟨f, fd, h1, h2, h3, h4⟩ := G.ex
  exact ge_call (Ex := E0) h4 hr h1 h2 h3 pass0 (fun _ _ z => z) ha hn hg he hpl hdb
theorem ge_callIOP {F : List D → List D → R (RV × List D)} (i : Nat) (G : Prom X.prog X.w X.K X.mg X.base k x ps (spIO Z0 F n)) (hr : Room k X.A) (h0 : PE X a (tVar i)) (ha : GA X F0 es (fArgs fs)) (hn : fs.length + 1 = n := by rfl) (hg : Gl X x := by rfl)
    (he : starEach (a :: es) X.env = (false, eval a X.env) :: starEach es X.env := by rfl) (hpl : (backTo pos (starEach es X.env)).any (·.1) = false := by rfl) (hdb : (x == ("__debug__" : Str)) = false := by decide) : GE X F0 (.Call (.Name x p) (a :: es) [] pos) (fCallIO F i fs) := by
  obtain ⟨f, fd, h1, h2, h3, h4⟩ := G.ex
  exact ge_callIO (Ex := E0) i h4 hr h1 h2 h3 pass0 (fun _ _ z => z) h0 ha hn hg he hpl hdb
theorem ge_globE {i : Int} {E : XE} (hm : ∃ t, X.mg x = some (.int i t)) (hg : Gl X x := by rfl) (hd : (x == ("__debug__" : Str)) = false := by decide) : GE X E (.Name x pos) (fC (.int i)) := let ⟨_, h⟩ := hm; ge_globI hg h hd
end
theorem fn_bad [Tables] {P : Program} {w : World} {K : PySem.W.Frag} {mg : Str → Option Value} {base : Heap} {k : Nat} {f : Addr} {fd : FuncData} {ps : List Str} : FnOk P w K mg base CX0 k f fd ps (spF Z0 (fun _ => .bad) ps.length) :=
  ⟨fun vs H Q E ⟨_, _, h, _⟩ => h, fun A outer s H args us vs Q E _ _ _ _ ⟨_, _, _, _, _, _, h⟩ => h.elim⟩
/-! ### the law's own def -/
def spLaw [Tables] (K : PySem.W.Frag) : Sp := fun vs H Q _ => ∃ (a : Addr) (ns : List Int), vs = [.ref a] ∧ SqL K H a (ns.map V.int) ∧ ns.length ≤ 63 ∧ LamX.Tabs Tables.T H ∧ ∀ H', Q (.bl true) H'
/-- the state of all draws: two numbers -/
def spCup [Tables] (K : PySem.W.Frag) (ok : Int → Int → Prop) : Sp := fun vs H Q _ => ∃ (a : Addr) (ns : List Int), vs = [.ref a] ∧ SqL K H a (ns.map V.int) ∧ ns.length ≤ 63 ∧ LamX.Tabs Tables.T H ∧
  ∀ x y p H', ok x y → LamX.Tabs Tables.T H' → H' p = some (.lst [.int x, .int y]) → Q (.ref p) H'
section
variable [Tables] {P : Program} {w : World} {K : PySem.W.Frag} {mg : Str → Option Value} {base : Heap}
/-- cup = _law_cup(script), then the rest -/
theorem law_fn {st : Stmt} {f : Addr} {fd : FuncData} {N : List Str} {k : Nat} {body : FS} {okC : Int → Int → Prop} {px pos p2 p3 p4 : Pos} {rest : List Stmt} (F : Fun K "law" "law" st f fd) (S : FnScope N ["script"] (defScope st)) (hN1 : N[1]? = some ("cup" : Str))
    (hb : defBody st = .Assign [.Name "cup" px] (.Call (.Name "_law_cup" p2) [.Name "script" p3] [] p4) pos :: rest) (hcup : (defScope st).names.lookup ("cup" : Str) = some .local ∨ (defScope st).names.lookup ("cup" : Str) = some .cell) (hgl : (defScope st).names.lookup ("_law_cup" : Str) = some .globalImplicit)
    (G : Prom P w K mg base k "_law_cup" ["script"] (spCup K okC))
    (h : ∀ (cdv : Value) (A : Around) (outer : List PySem.Env) (s : Shared) (H : Hp) (E : XK), Room k (A.deeper (envOfC "law" (defScope st) s.heap.objs.size f cdv)) → GSs (cxOf CX0 P w K mg base N "law" (defScope st) f cdv A outer s H E).nox F0 rest body)
    (hm : ∀ x y, okC x y → ∃ env', body (none :: some (.ow true (.lst [.int x, .int y])) :: List.replicate (N.length - 2) none) = .ok (.rt (.sh (.bool true)) env')) :
    FnOk P w K mg base CX0 (k + 1) f fd ["script"] (spLaw K) := by
  obtain ⟨fc, fdc, g1, g2, g3, g4⟩ := G.ex
  refine F.ok S (fun vs H Q E h => by obtain ⟨a, ns, rfl, _⟩ := h; rfl) (fun cdv A outer s H vs Q E hr hq => ?_)
  rw [hb]
  have hN0 : N[0]? = some ("script" : Str) := by
    have := S.pre
    cases N with
    | nil => cases this
    | cons a r => simp at this; simp [this]
  have par := S.par ("script" : Str) (by simp)
  have hlx : (cxOf CX0 P w K mg base N "law" (defScope st) f cdv A outer s H E).nox.env.scope.names = (defScope st).names := rfl
  refine ⟨_, pss_cons (ps_set (X := (cxOf CX0 P w K mg base N "law" (defScope st) f cdv A outer s H E).nox) (i := 1) S.nd hN1 hcup (pe_call g4 hr hgl g1 g2 g3 .nil pass0 (pa_cons (pv 0 hN0 (par.elim .inl fun z => .inr (.inl z)) (by decide) (by decide)) pa_nil rfl) (by decide) rfl rfl) rfl (.inl rfl)) (h cdv A outer s H E hr), ?_⟩
  obtain ⟨a, ns, rfl, hS, hlen, htab, q⟩ := hq
  obtain ⟨m, hmN⟩ : ∃ m, N.length = m + 2 := by
    have := (List.getElem?_eq_some_iff.mp hN1).1
    exact ⟨N.length - 2, by omega⟩
  refine ⟨.ref a, by unfold L2.start; simp, a, ns, by simp, hS, hlen, htab, fun x y p H' hxy tt hH' => ?_⟩
  obtain ⟨env', he⟩ := hm x y hxy
  refine ⟨⟨fun _ => none, fun _ => False⟩, fun _ => none, _, ⟨?_, fun b o e => (nomatch e), fun b o e => (nomatch e), fun _ z => z.elim, fun i m e => ?_, fun i j k c k' c' q e1 e2 => ?_, tt, fun b ps e => (nomatch e), fun b ps e => (nomatch e)⟩, by rw [he]; exact fun v σ Hs' H2 _ _ rr => by cases (show Dq Hs' v (.bool true) from rr); exact q _⟩
  · unfold L2.start
    simp [hmN]
  · match i, e with
    | 0, e => simp at e
    | 1, e =>
      simp at e
      subst e
      refine ⟨p, ?_, rfl, rfl, ⟨_, hH', _, rfl, Nat.le_trans (show 2 ≤ 1000 by decide) (by decide), .cons (.int _) (.one (.int _))⟩, fun _ z => z, fun z => nomatch z⟩
      rw [List.getElem?_set_self]
      unfold L2.start
      simp [hmN]
    | i + 2, e =>
      simp only [List.getElem?_cons_succ, List.getElem?_replicate] at e
      split at e <;> cases e
  · have only : ∀ (j : Nat) (k : Bool) (c : OC), (none :: some (MV.ow true (.lst [.int x, .int y])) :: List.replicate (N.length - 2) none)[j]? = some (some (.ow k c)) → j = 1 := fun j k c e => by
      match j, e with
      | 0, e => simp at e
      | 1, e => rfl
      | j + 2, e =>
        simp only [List.getElem?_cons_succ, List.getElem?_replicate] at e
        split at e <;> cases e
    exact fun _ _ => (only _ _ _ e1).trans (only _ _ _ e2).symm
end
end PI
namespace PI
open PySem PySem.Spec PyProof.Rows L2
open R (RD_bnd)
section
variable [Tables] {P : Program} {w : World} {K : PySem.W.Frag} {mg : Str → Option Value} {base : Heap}
def okCup (x y : Int) : Prop := 0 ≤ x ∧ 0 ≤ y ∧ y < 4294967296
/-- the script's first cell (0 where there is none), then what is reckoned of it -/
theorem cup_fn {st : Stmt} {f : Addr} {fd : FuncData} {body : FS} {p1 p2 p3 p4 p5 p6 p7 p8 p9 p10 p11 p12 : Pos} {n1 n2 : Nat} {rest : List Stmt} (F : Fun K "_law_cup" "_law_cup" st f fd) (S : FnScope ["script", "cell"] ["script"] (defScope st))
    (hb : defBody st = .Assign [.Name "cell" p1] (.Call (.Name "abs" p2) [.Subscript (.BinOp (.Call (.Name "list" p3) [.Name "script" p4] [] p5) .Add (.List [.Constant (.int 0) n1 p6] p7) p8) (.Constant (.int 0) n2 p9) p10] [] p11) p12 :: rest)
    (hl : (defScope st).names.lookup ("cell" : Str) = some .local) (hg1 : (defScope st).names.lookup ("abs" : Str) = some .globalImplicit) (hg2 : (defScope st).names.lookup ("list" : Str) = some .globalImplicit) (m1 : mg "abs" = none) (m2 : mg "list" = none)
    (h : ∀ (cdv : Value) (A : Around) (outer : List PySem.Env) (s : Shared) (H : Hp) (E : XK), Room 0 (A.deeper (envOfC "_law_cup" (defScope st) s.heap.objs.size f cdv)) → GSs (cxOf CX0 P w K mg base ["script", "cell"] "_law_cup" (defScope st) f cdv A outer s H E).nox F0 rest body)
    (hm : ∀ c : Int, 0 ≤ c → ∃ x y env', okCup x y ∧ body [none, some (.sh (.int c))] = .ok (.rt (.fr (.lst [.int x, .int y])) env')) :
    FnOk P w K mg base CX0 1 f fd ["script"] (spCup K okCup) := by
  refine F.ok S (fun vs H Q E h => by obtain ⟨a, ns, rfl, _⟩ := h; rfl) (fun cdv A outer s H vs Q E hr hq => ?_)
  rw [hb]
  have par := S.par ("script" : Str) (by simp)
  refine ⟨_, pss_cons (ps_set (X := (cxOf CX0 P w K mg base ["script", "cell"] "_law_cup" (defScope st) f cdv A outer s H E).nox) (i := 1) S.nd rfl (.inl hl)
    (pe_callB call_abs hg1 m1 (by decide +kernel) (pa_cons (pe_ix ix_list (pe_op op_cat (pe_callTy call_list_of hg2 m2 (by decide +kernel) (pa_cons (pv 0 rfl (par.elim .inl fun z => .inr (.inl z)) (by decide) (by decide)) pa_nil rfl)) (pe_lst (pa_cons pe_int pa_nil rfl))) pe_int (fun _ _ => rfl)) pa_nil rfl)) rfl (.inl rfl)) (h cdv A outer s H E hr), ?_⟩
  obtain ⟨a, ns, rfl, hS, hlen, htab, q⟩ := hq
  refine ⟨.ref a, rfl, a, ns.map V.int, rfl, .inl hS, fun l hl => ?_⟩
  refine ⟨Nat.le_trans (show 1 ≤ 1000 by decide) (by decide), fun l2 hl2 => ?_⟩
  have ne : l ≠ l2 := fun z => by subst z; rw [upd_same] at hl2; cases hl2
  refine ⟨l, l2, ns.map V.int, [.int 0], rfl, rfl, by rw [upd_ne ne, upd_same], upd_same, ?_, fun l3 hl3 => ?_⟩
  · rw [sizeL]; simp; omega
  · have hat : ∃ n : Int, L2.atI (ns.map V.int ++ [V.int 0]) 0 = some (.int n) := by
      cases ns with
      | nil => exact ⟨0, rfl⟩
      | cons n r => exact ⟨n, atI_nat (j := 0) rfl⟩
    obtain ⟨n, hat⟩ := hat
    refine ⟨l3, _, 0, .int n, rfl, rfl, SqL.of upd_same, hat, n, rfl, ?_⟩
    have hc : 0 ≤ (if n < 0 then -n else n) := by split <;> omega
    generalize (if n < 0 then -n else n) = c at hc ⊢
    obtain ⟨x, y, env', hok, he⟩ := hm c hc
    have sm : Same H (upd (upd (upd H l (.lst (ns.map V.int))) l2 (.lst [.int 0])) l3 (.lst (ns.map V.int ++ [.int 0]))) := ((same_upd hl).trans (same_upd hl2)).trans (same_upd hl3)
    refine ⟨⟨fun _ => none, fun _ => False⟩, fun _ => none, _, ⟨?_, fun b o e => (nomatch e), fun b o e => (nomatch e), fun _ z => z.elim, fun i m e => ?_, fun i j k c k' c' q e1 e2 => ?_, htab.ext sm, fun b ps e => (nomatch e), fun b ps e => (nomatch e)⟩, by
      rw [he]
      intro v σ Hs' H2 _ o2 rr
      obtain ⟨p, ev, hO, _⟩ := rr
      subst ev
      obtain ⟨ob, ho, xs, ex, hz, hd⟩ := hO.2.2.1
      subst ex
      cases hd with
      | cons h1 h2 =>
        cases h2 with
        | cons h2 h3 =>
          cases h1
          cases h2
          cases h3
          exact q x y p H2 hok o2.tb.1 ho⟩
    · rfl
    · match i, e with
      | 0, e => simp at e
      | 1, e =>
        simp at e
        subst e
        exact ⟨.int c, rfl, .int c⟩
      | i + 2, e => simp at e
    · match i, e1 with
      | 0, e => simp at e
      | 1, e => simp at e
      | i + 2, e => simp at e
end
end PI
set_option autoImplicit true
set_option Elab.async false
set_option linter.all false
set_option maxRecDepth 100000
/-! Pi11: the combinators by simp; draws; sameness. -/
namespace PI
open PySem
theorem R.bnd_cg {α β : Type} {r r' : R α} {f : α → R β} (h : r = r') : r.bnd f = r'.bnd f := by rw [h]
section ev
variable (env : Env)
@[simp ↓] theorem v_name (i : Nat) : fName i env = (match env[i]? with
  | some (some (.sh d)) => .ok (.sh d, env)
  | some (some (.ow _ _)) => .ok (.br i, env)
  | _ => .bad) := rfl
@[simp ↓] theorem v_C (d : D) : fC d env = .ok (.sh d, env) := rfl
@[simp ↓] theorem v_bin (g : D → D → R RV) (a b : FE) : fBin g a b env = (a env).bnd fun x => (b x.2).bnd fun y => (rd y.2 (hold x.1)).bnd fun d1 => (rd y.2 (hold y.1)).bnd fun d2 => (g d1 d2).nox.bnd fun r => .ok (r, y.2) := rfl
@[simp ↓] theorem v_un (g : D → R RV) (a : FE) : fUn g a env = (a env).bnd fun x => (rd x.2 (hold x.1)).bnd fun d => (g d).nox.bnd fun r => .ok (r, x.2) := rfl
@[simp ↓] theorem v_args0 : fArgs [] env = .ok ([], env) := rfl
@[simp ↓] theorem v_args (a : FE) (as : List FE) : fArgs (a :: as) env = (a env).bnd fun x => (fzL x.2 x.1).bnd fun y => (fArgs as y.2).bnd fun z => .ok (y.1 :: z.1, z.2) := rfl
@[simp ↓] theorem v_tup (as : List FE) : fTup as env = (fArgs as env).bnd fun z => .ok (.sh (.tuple z.1), z.2) := rfl
@[simp ↓] theorem v_lst (as : List FE) : fLst as env = (fArgs as env).bnd fun z => .ok (.fr (.lst z.1), z.2) := rfl
@[simp ↓] theorem v_held0 : fHeld [] env = .ok ([], env) := rfl
@[simp ↓] theorem v_held (a : FE) (as : List FE) : fHeld (a :: as) env = (a env).bnd fun x => (fHeld as x.2).bnd fun z => .ok (hold x.1 :: z.1, z.2) := rfl
@[simp] theorem v_rdAll0 : rdAll env [] = .ok [] := rfl
@[simp] theorem v_rdAll (r : RV) (rs : List RV) : rdAll env (r :: rs) = (rd env r).bnd fun d => (rdAll env rs).bnd fun ds => .ok (d :: ds) := rfl
@[simp ↓] theorem v_bi (g : List D → R RV) (as : List FE) : fBi g as env = (fHeld as env).bnd fun z => (rdAll z.2 z.1).bnd fun ds => (g ds).nox.bnd fun r => .ok (r, z.2) := rfl
@[simp ↓] theorem v_call (F : List D → R RV) (as : List FE) : fCall F as env = (fArgs as env).bnd fun z => (F z.1).bnd fun r => (noBr r).bnd fun r => .ok (r, z.2) := rfl
@[simp ↓] theorem v_callIO (F : List D → List D → R (RV × List D)) (i : Nat) (as : List FE) : fCallIO F i as env = (if isOwnL env[i]? then (fArgs as env).bnd fun z => (match z.2[i]? with
    | some (some (.ow k (.lst cs))) => (F cs z.1).bnd fun r => (noBr r.1).bnd fun v => .ok (v, z.2.set i (some (.ow k (.lst r.2))))
    | _ => .bad)
  else .bad) := rfl
@[simp ↓] theorem v_val (a : FE) : tVal a env = (a env).bnd fun x => (match x.1 with
  | .sh (.bool b) => .ok (b, x.2)
  | _ => .bad) := rfl
@[simp ↓] theorem v_tnot (t : FT) : PI.tNot t env = (t env).bnd fun x => .ok (!x.1, x.2) := rfl
@[simp ↓] theorem v_tand (t u : FT) : PI.tAnd t u env = (t env).bnd fun x => if x.1 then u x.2 else .ok (false, x.2) := rfl
@[simp ↓] theorem v_tor (t u : FT) : PI.tOr t u env = (t env).bnd fun x => if x.1 then .ok (true, x.2) else u x.2 := rfl
@[simp ↓] theorem v_yes : PI.tYes env = .ok (true, env) := rfl
@[simp ↓] theorem v_if (t : FT) (a b : FE) : fIf t a b env = (t env).bnd fun x => if x.1 then a x.2 else b x.2 := rfl
@[simp ↓] theorem v_and (a b : FE) : fAnd a b env = (a env).bnd fun x => (match x.1 with
  | .sh (.bool c) => if c then b x.2 else .ok (.sh (.bool false), x.2)
  | _ => .bad) := rfl
@[simp ↓] theorem v_or (a b : FE) : fOr a b env = (a env).bnd fun x => (match x.1 with
  | .sh (.bool c) => if c then .ok (.sh (.bool true), x.2) else b x.2
  | _ => .bad) := rfl
@[simp ↓] theorem v_not (a : FE) : fNot a env = (a env).bnd fun x => (match x.1 with
  | .sh (.bool c) => .ok (.sh (.bool (!c)), x.2)
  | _ => .bad) := rfl
@[simp ↓] theorem v_chain (g g' : D → D → R RV) (a b c : FE) : fChain g g' a b c env =
  (a env).bnd fun x => (b x.2).bnd fun y => (rd y.2 (hold x.1)).bnd fun d1 => (rd y.2 (hold y.1)).bnd fun d2 => (g d1 d2).nox.bnd fun r => (match r with
    | .sh (.bool k) => if k then (c y.2).bnd fun z => (rd z.2 (hold y.1)).bnd fun e2 => (rd z.2 (hold z.1)).bnd fun e3 => (g' e2 e3).nox.bnd fun r => .ok (r, z.2) else .ok (.sh (.bool false), y.2)
    | _ => .bad) := rfl
@[simp] theorem v_gname (i : Nat) (d : D) : gName i d env = .ok (env.set i (some (.sh d))) := rfl
@[simp] theorem v_gseq0 : gSeq [] [] env = .ok env := rfl
@[simp] theorem v_gseq (g : FG) (gs : List FG) (d : D) (ds : List D) : gSeq (g :: gs) (d :: ds) env = (g d env).bnd fun e => gSeq gs ds e := rfl
@[simp] theorem v_gtup (gs : List FG) (ds : List D) : PI.gTup gs (.tuple ds) env = gSeq gs ds env := rfl
@[simp ↓] theorem v_iseq (a : FE) : iSeq a env = (a env).bnd fun x => (fzL x.2 x.1).bnd fun y => (seqOf y.1).bnd fun ds => .ok (ds, y.2) := rfl
@[simp ↓] theorem v_irange1 (a : FE) : iRange1 a env = (fArgs [a] env).bnd fun z => (match z.1 with
  | [.int j] => if j.natAbs ≤ 16777216 then .ok (rng 0 j.toNat, z.2) else .bad
  | _ => .bad) := rfl
@[simp ↓] theorem v_irange2 (a b : FE) : iRange2 a b env = (fArgs [a, b] env).bnd fun z => (match z.1 with
  | [.int i, .int j] => if j.natAbs ≤ 4194304 ∧ i.natAbs ≤ 4194304 then .ok (rng i (j - i).toNat, z.2) else .bad
  | _ => .bad) := rfl
@[simp ↓] theorem v_ienum (a : FE) : PI.iEnum a env = (fArgs [a] env).bnd fun z => (match z.1 with
  | [d] => (sqOf d).bnd fun ds => .ok (enumFrom 0 ds, z.2)
  | _ => .bad) := rfl
@[simp ↓] theorem v_izip (a b : FE) : PI.iZip a b env = (fArgs [a, b] env).bnd fun z => (match z.1 with
  | [d, e] => (sqOf d).bnd fun ds => (sqOf e).bnd fun es => .ok (zipD ds es, z.2)
  | _ => .bad) := rfl
@[simp] theorem sqOf_l (ds : List D) : sqOf (.list ds) = .ok ds := rfl
@[simp] theorem sqOf_t (ds : List D) : sqOf (.tuple ds) = .ok ds := rfl
@[simp] theorem seqOf_l (ds : List D) : seqOf (.list ds) = .ok ds := rfl
@[simp] theorem seqOf_t (ds : List D) : seqOf (.tuple ds) = .ok ds := rfl
@[simp ↓] theorem v_comp (own : List Nat) (fi : FI) (tg : FG) (ts : FT) (el : FE) : fComp own fi tg ts el env =
  (fi env).bnd fun z => (compL tg ts el own z.1 (wipeE z.2 own) []).nox.bnd fun o => .ok (.fr (.lst o.1), backE z.2 o.2 own) := rfl
@[simp] theorem v_wipe0 : wipeE env [] = env := rfl
@[simp] theorem v_wipe (v : Nat) (vs : List Nat) : wipeE env (v :: vs) = (wipeE env vs).set v none := rfl
@[simp] theorem v_back0 (old : Env) : backE old env [] = env := rfl
@[simp] theorem v_back (old : Env) (v : Nat) (vs : List Nat) : backE old env (v :: vs) = (backE old env vs).set v (shOnly old[v]?) := rfl
@[simp] theorem shOnly_sh (d : D) : shOnly (some (some (.sh d))) = some (.sh d) := rfl
@[simp] theorem shOnly_ow (k : Bool) (c : OC) : shOnly (some (some (.ow k c))) = none := rfl
@[simp] theorem shOnly_n : shOnly (some none) = none := rfl
@[simp] theorem shOnly_nn : shOnly none = none := rfl
@[simp ↓] theorem v_skip : sSkip env = .ok (.nx env) := rfl
@[simp ↓] theorem v_seq (s t : FS) : sSeq s t env = (s env).bnd fun o => (match o with
  | .nx e => t e
  | o => .ok o) := rfl
@[simp ↓] theorem v_set (i : Nat) (a : FE) : sSet i a env = (a env).bnd fun x => (stowL i x.1 x.2).bnd fun e => .ok (.nx e) := rfl
@[simp ↓] theorem v_setC (i : Nat) (a : FE) : sSetC i a env = (a env).bnd fun x => (stow i x.1 x.2).bnd fun e => .ok (.nx e) := rfl
@[simp ↓] theorem v_asg (g : FG) (a : FE) : sAsg g a env = (a env).bnd fun x => (fzL x.2 x.1).bnd fun y => (g y.1 y.2).nox.bnd fun e => .ok (.nx e) := rfl
@[simp ↓] theorem v_par (i j : Nat) (a b : FE) : PI.sPar i j a b env = (a env).bnd fun x => (match x.1 with
  | .br _ => .bad
  | .no => .bad
  | x1 => (b x.2).bnd fun y => (match y.1 with
    | .br _ => .bad
    | .no => .bad
    | y1 => (stow i x1 y.2).bnd fun e => (stow j y1 e).bnd fun e => .ok (.nx e))) := rfl
@[simp ↓] theorem v_par3 (i j l : Nat) (a b c : FE) : sPar3 i j l a b c env = (a env).bnd fun x => (fz x.2 x.1).bnd fun x => (b x.2).bnd fun y => (fz y.2 y.1).bnd fun y => (c y.2).bnd fun z => (fz z.2 z.1).bnd fun z =>
  .ok (.nx (((z.2.set i (some (.sh x.1))).set j (some (.sh y.1))).set l (some (.sh z.1)))) := rfl
@[simp ↓] theorem v_sif (t : FT) (a b : FS) : sIf t a b env = (t env).bnd fun x => if x.1 then a x.2 else b x.2 := rfl
@[simp ↓] theorem v_ret (a : FE) : sRet a env = (a env).bnd fun x => outOf x.1 x.2 := rfl
@[simp ↓] theorem v_retN : sRetN env = .ok (.rt (.sh .none) env) := rfl
@[simp ↓] theorem v_expr (a : FE) : sExpr a env = (a env).bnd fun x => .ok (.nx x.2) := rfl
@[simp ↓] theorem v_raise (c : Str) : sRaise c env = .exc c := rfl
@[simp ↓] theorem v_break : PI.sBreak env = .ok (.bk env) := rfl
@[simp ↓] theorem v_cont : PI.sCont env = .ok (.ct env) := rfl
@[simp ↓] theorem v_app (i : Nat) (a : FE) : sApp i a env = (if isOwnL env[i]? then (a env).bnd fun x => (fzL x.2 x.1).bnd fun y => (match y.2[i]? with
    | some (some (.ow k (.lst ds))) => if ds.length < 16777216 then .ok (.nx (y.2.set i (some (.ow k (.lst (ds ++ [y.1])))))) else .bad
    | _ => .bad)
  else .bad) := rfl
@[simp ↓] theorem v_put (i : Nat) (k : FE) (a : FE) : sPut i k a env = (a env).bnd fun x => (fzL x.2 x.1).bnd fun y => if isOwnC y.2[i]? then (k y.2).bnd fun z => (match z.1, z.2[i]? with
    | .sh (.int j), some (some (.ow b (.lst ds))) => (match ixN ds.length j with
      | some n => .ok (.nx (z.2.set i (some (.ow b (.lst (ds.set n y.1))))))
      | none => .bad)
    | .sh d, some (some (.ow true (.dct t kvs))) => if okKey t d = true ∧ kvs.length < 16777216 then .ok (.nx (z.2.set i (some (.ow true (.dct t (putD kvs d y.1)))))) else .bad
    | _, _ => .bad)
  else .bad := rfl
@[simp ↓] theorem v_for (fi : FI) (tg : FG) (body : FS) : sFor fi tg body env = (fi env).bnd fun z => forL tg body z.1 z.2 := rfl
@[simp ↓] theorem v_while (n : Nat) (t : FT) (body : FS) : sWhile n t body env = whileL t body n env := rfl
@[simp] theorem stowL_sh (i : Nat) (d : D) : stowL i (.sh d) env = .ok (env.set i (some (.sh d))) := rfl
@[simp] theorem stowL_fr (i : Nat) (c : OC) : stowL i (.fr c) env = .ok (env.set i (some (.ow true c))) := rfl
@[simp] theorem stowL_br (i j : Nat) : stowL i (.br j) env = (fzL env (.br j)).bnd fun y => .ok (y.2.set i (some (.sh y.1))) := rfl
@[simp] theorem stow_sh (i : Nat) (d : D) : stow i (.sh d) env = .ok (env.set i (some (.sh d))) := rfl
@[simp] theorem stow_fr (i : Nat) (c : OC) : stow i (.fr c) env = .ok (env.set i (some (.ow true c))) := rfl
@[simp] theorem stow_br (i j : Nat) : stow i (.br j) env = (fz env (.br j)).bnd fun y => .ok (y.2.set i (some (.sh y.1))) := rfl
@[simp] theorem rd_br (i : Nat) : rd env (.br i) = (match env[i]? with
    | some (some m) => .ok m.d
    | _ => .bad) := rfl
@[simp] theorem fzL_br (i : Nat) : fzL env (.br i) = (match env[i]? with
    | some (some (.sh d)) => .ok (d, env)
    | some (some (.ow true c)) => .ok (c.d, env.set i (some (.sh c.d)))
    | _ => .bad) := by
  unfold fzL
  cases h : env[i]? with
  | none => simp only; rw [fz, h]
  | some o =>
    cases o with
    | none => simp only; rw [fz, h]
    | some m =>
      cases m with
      | sh d => simp only; rw [fz, h]
      | ow k c =>
        cases k with
        | false => cases c <;> simp only [] <;> rw [fz, h]
        | true => cases c with
          | lst ds => simp only; rw [fz, h]; rfl
          | dct t kvs => simp only [h]; rfl
@[simp] theorem fz_br (i : Nat) : fz env (.br i) = (match env[i]? with
    | some (some (.sh d)) => .ok (d, env)
    | some (some (.ow true (.lst ds))) => .ok (.list ds, env.set i (some (.sh (.list ds))))
    | _ => .bad) := rfl
@[simp] theorem outOf_sh (d : D) : outOf (.sh d) env = .ok (.rt (.sh d) env) := rfl
@[simp] theorem outOf_fr (c : OC) : outOf (.fr c) env = .ok (.rt (.fr c) env) := rfl
@[simp] theorem outOf_br (i : Nat) : outOf (.br i) env = (match env[i]? with
    | some (some (.sh d)) => .ok (.rt (.sh d) env)
    | some (some (.ow true c)) => .ok (.rt (.fr c) (env.set i none))
    | _ => .bad) := rfl
@[simp] theorem noBr_sh (d : D) : noBr (.sh d) = .ok (.sh d) := rfl
@[simp] theorem noBr_fr (c : OC) : noBr (.fr c) = .ok (.fr c) := rfl
@[simp] theorem isOwnC_l (k : Bool) (ds : List D) : isOwnC (some (some (.ow k (.lst ds)))) = true := by cases k <;> rfl
@[simp] theorem isOwnC_d (t : Bool) (kvs : List (D × D)) : isOwnC (some (some (.ow true (.dct t kvs)))) = true := rfl
@[simp] theorem OC.d_dct (t : Bool) (kvs : List (D × D)) : (OC.dct t kvs).d = .dict (mkD t kvs) := rfl
@[simp] theorem isOwnL_y (k : Bool) (ds : List D) : isOwnL (some (some (.ow k (.lst ds)))) = true := rfl
@[simp ↓] theorem v_slice (a : FE) (lo hi : Option FE) : fSlice a lo hi env = (a env).bnd fun x => (optI lo x.2).bnd fun l => (optI hi l.2).bnd fun h => (rd h.2 (hold x.1)).bnd fun d => (cutD d l.1 h.1).nox.bnd fun r => .ok (r, h.2) := rfl
@[simp] theorem v_opt0 : optI none env = .ok (none, env) := rfl
@[simp] theorem v_opt (f : FE) : optI (some f) env = (f env).bnd fun x => (match x.1 with
    | .sh (.int i) => .ok (some i, x.2)
    | _ => .bad) := rfl
theorem v_run (n : Nat) (body : FS) (ds : List D) : runF n body ds = (body (ds.map (fun d => some (.sh d)) ++ List.replicate (n - ds.length) none)).bnd fun o => (match o with
    | .nx _ => .ok (.sh .none)
    | .rt r _ => noBr r
    | _ => .bad) := rfl
theorem v_runIO (n : Nat) (body : FS) (cs ds : List D) : runIO n body cs ds =
  (body (some (.ow false (.lst cs)) :: (ds.map (fun d => some (.sh d)) ++ List.replicate (n - (ds.length + 1)) none))).bnd fun (o : Out) => (match o with
    | .nx e => (match (e[0]? : Option (Option MV)) with
      | some (some (.ow false (.lst cs'))) => .ok (.sh .none, cs')
      | _ => .bad)
    | .rt r e => (match (e[0]? : Option (Option MV)) with
      | some (some (.ow false (.lst cs'))) => (noBr r).bnd fun r => .ok (r, cs')
      | _ => .bad)
    | _ => .bad) := rfl
end ev
/-! ### operators -/
@[simp] theorem addD_ii (i j : Int) : addD (.int i) (.int j) = .ok (.sh (.int (i + j))) := rfl
@[simp] theorem subD_ii (i j : Int) : subD (.int i) (.int j) = .ok (.sh (.int (i - j))) := rfl
theorem addD_ll {xs ys : List D} (h : xs.length + ys.length ≤ 16777216) : addD (.list xs) (.list ys) = .ok (.fr (.lst (xs ++ ys))) := by simp [addD, h]
theorem addD_tt {xs ys : List D} (h : xs.length + ys.length ≤ 16777216) : addD (.tuple xs) (.tuple ys) = .ok (.sh (.tuple (xs ++ ys))) := by simp [addD, h]
@[simp] theorem negD_i (i : Int) : negD (.int i) = .ok (.sh (.int (-i))) := rfl
@[simp] theorem cmpD_ii (p : Int → Int → Bool) (q : D → D → Bool) (i j : Int) : cmpD p q (.int i) (.int j) = .ok (.sh (.bool (p i j))) := rfl
theorem smallI_of {i : Int} (h : -(2 ^ 64) < i ∧ i < 2 ^ 64) : smallI i = true := decide_eq_true (by omega)
theorem mulD_ii {i j : Int} (h : (-(2 ^ 64) < i ∧ i < 2 ^ 64) ∨ (-(2 ^ 64) < j ∧ j < 2 ^ 64)) : mulD (.int i) (.int j) = .ok (.sh (.int (i * j))) := by
  have : (smallI i || smallI j) = true := by
    rcases h with h | h
    · rw [smallI_of h, Bool.true_or]
    · rw [smallI_of h, Bool.or_true]
  simp only [mulD]
  rw [if_pos this]
theorem mulD_ti {x : D} {k : Int} (h1 : 1 ≤ k) (h2 : k ≤ 1000) : mulD (.tuple [x]) (.int k) = .ok (.sh (.tuple (List.replicate k.toNat x))) := by
  simp [mulD, h2, List.flatten_replicate_singleton]; omega
theorem mulD_t {xs : List D} {k : Int} (h0 : xs.length ≠ 0) (h3 : xs.length ≤ 1000) (h1 : 1 ≤ k) (h2 : k ≤ 1000) : mulD (.tuple xs) (.int k) = .ok (.sh (.tuple (List.replicate k.toNat xs).flatten)) := by
  simp only [mulD]; rw [if_pos ⟨by omega, h2, h3⟩]
theorem mulD_t0 {xs : List D} {k : Int} (h3 : xs.length ≤ 1000) (h1 : -1000 ≤ k) (h2 : k ≤ 0) : mulD (.tuple xs) (.int k) = .ok (.sh (.tuple [])) := by
  simp only [mulD]; rw [if_pos ⟨h1, by omega, h3⟩, show k.toNat = 0 by omega]; rfl
theorem mulD_tk {x : D} {k : Int} (h1 : -1000 ≤ k) (h2 : k ≤ 1000) : mulD (.tuple [x]) (.int k) = .ok (.sh (.tuple (List.replicate k.toNat x))) := by
  simp [mulD, h1, h2, List.flatten_replicate_singleton]
theorem fdivD_ii {i j : Int} (h : j ≠ 0) (h2 : j.natAbs < 1073741824) : fdivD (.int i) (.int j) = .ok (.sh (.int (i.fdiv j))) := by simp only [fdivD]; rw [if_pos ⟨h, h2⟩]
theorem fdivD_p {i j : Int} (h : 0 < j) (h2 : j < 1073741824) : fdivD (.int i) (.int j) = .ok (.sh (.int (i / j))) := by
  rw [fdivD_ii (by omega) (by omega), Int.fdiv_eq_ediv_of_nonneg _ (by omega)]
theorem modD_p {i j : Int} (h : 0 < j) : modD (.int i) (.int j) = .ok (.sh (.int (i % j))) := by
  simp only [modD]
  rw [if_pos (by omega), Int.fmod_eq_emod_of_nonneg _ (by omega)]
theorem depth_i (i : Int) : PyData.depth (.int i) = 0 := by simp [PyData.depth]
theorem depth_b (i : Bool) : PyData.depth (.bool i) = 0 := by simp [PyData.depth]
theorem depth_s (i : Str) : PyData.depth (.str i) = 0 := by simp [PyData.depth]
theorem depth_n : PyData.depth .none = 0 := by simp [PyData.depth]
theorem depth_t (xs : List D) : PyData.depth (.tuple xs) = PyData.depthAll xs + 1 := by simp [PyData.depth]
theorem depth_l (xs : List D) : PyData.depth (.list xs) = PyData.depthAll xs + 1 := by simp [PyData.depth]
theorem depthAll_0 : PyData.depthAll [] = 0 := by simp [PyData.depthAll]
theorem depthAll_c (x : D) (xs : List D) : PyData.depthAll (x :: xs) = max x.depth (PyData.depthAll xs) := by simp [PyData.depthAll]
theorem depthAll_le {n : Nat} : ∀ {xs : List D}, (∀ x ∈ xs, x.depth ≤ n) → PyData.depthAll xs ≤ n
  | [], _ => by simp [PyData.depthAll]
  | x :: xs, h => by
    rw [depthAll_c]
    have := h x (by simp)
    have := depthAll_le fun y hy => h y (List.mem_cons_of_mem _ hy)
    omega
theorem depth_le_all {x : D} : ∀ {xs : List D}, x ∈ xs → x.depth ≤ PyData.depthAll xs
  | y :: xs, h => by
    rw [depthAll_c]
    rcases List.mem_cons.mp h with rfl | h
    · omega
    · have := depth_le_all h
      omega
@[simp] theorem eqv_ii (i j : Int) : PyData.eqv (.int i) (.int j) = decide (i = j) := by
  rw [PyData.eqv]; exact Bool.beq_eq_decide_eq i j
theorem eqOk_ii (i j : Int) : eqOk (.int i) (.int j) = true := by simp [eqOk, PyData.plain, PyData.depth]
@[simp] theorem eqD_ii (i j : Int) : PI.eqD (.int i) (.int j) = .ok (.sh (.bool (decide (i = j)))) := by
  simp [PI.eqD, eqOk_ii]
@[simp] theorem neD_ii (i j : Int) : PI.neD (.int i) (.int j) = .ok (.sh (.bool (!decide (i = j)))) := by
  simp [PI.neD, eqOk_ii]
@[simp] theorem neD_l0 (xs : List D) : PI.neD (.list xs) (.list []) = .ok (.sh (.bool (!xs.isEmpty))) := by
  unfold PI.neD
  rw [if_pos (show eqOk (.list xs) (.list []) = true from rfl)]
  cases xs <;> simp [PyData.eqv, PyData.eqvAll]
@[simp] theorem eqD_l0 (xs : List D) : PI.eqD (.list xs) (.list []) = .ok (.sh (.bool xs.isEmpty)) := by
  unfold PI.eqD
  rw [if_pos (show eqOk (.list xs) (.list []) = true from rfl)]
  cases xs <;> simp [PyData.eqv, PyData.eqvAll]
@[simp] theorem isD_n (d : D) : isD d .none = .ok (.sh (.bool (isNoneD d))) := by cases d <;> rfl
@[simp] theorem isNotD_n (d : D) : isNotD d .none = .ok (.sh (.bool (!isNoneD d))) := by cases d <;> rfl
@[simp] theorem isD_b (a b : Bool) : isD (.bool a) (.bool b) = .ok (.sh (.bool (decide (a = b)))) := rfl
@[simp] theorem isNotD_b (a b : Bool) : isNotD (.bool a) (.bool b) = .ok (.sh (.bool (!decide (a = b)))) := rfl
@[simp] theorem isNoneD_n : isNoneD .none = true := rfl
@[simp] theorem isNoneD_b (b : Bool) : isNoneD (.bool b) = false := rfl
@[simp] theorem isNoneD_i (b : Int) : isNoneD (.int b) = false := rfl
@[simp] theorem isNoneD_s (b : Str) : isNoneD (.str b) = false := rfl
@[simp] theorem isNoneD_l (b : List D) : isNoneD (.list b) = false := rfl
@[simp] theorem isNoneD_t (b : List D) : isNoneD (.tuple b) = false := rfl
@[simp] theorem isNoneD_d (b : List (D × D)) : isNoneD (.dict b) = false := rfl
theorem atI_of {α : Type} {xs : List α} {i : Int} {x : α} (h0 : 0 ≤ i) (h : xs[i.toNat]? = some x) : PI.atI xs i = some x := by
  have hl : i.toNat < xs.length := by
    rcases Nat.lt_or_ge i.toNat xs.length with g | g
    · exact g
    · rw [List.getElem?_eq_none g] at h; cases h
  simp only [PI.atI, PI.ixN]
  rw [if_pos h0, if_pos (by omega)]
  exact h
theorem atI_last {α : Type} {xs : List α} {x : α} : PI.atI (xs ++ [x]) (-1) = some x := by
  simp only [PI.atI, PI.ixN, List.length_append, List.length_cons, List.length_nil]
  rw [if_neg (by omega), if_pos (by omega)]
  rw [show (-1 + ((xs.length + 1 : Nat) : Int)).toNat = xs.length by omega]
  simp
theorem ixD_t {xs : List D} {i : Int} {d : D} (h : PI.atI xs i = some d) : ixD (.tuple xs) (.int i) = .ok (.sh d) := by simp only [ixD, h]
theorem ixD_l {xs : List D} {i : Int} {d : D} (h : PI.atI xs i = some d) : ixD (.list xs) (.int i) = .ok (.sh d) := by simp only [ixD, h]
@[simp] theorem lenD_l (ds : List D) : lenD [.list ds] = .ok (.sh (.int ds.length)) := rfl
@[simp] theorem lenD_t (ds : List D) : lenD [.tuple ds] = .ok (.sh (.int ds.length)) := rfl
@[simp] theorem listD_l (ds : List D) : listD [.list ds] = .ok (.fr (.lst ds)) := rfl
@[simp] theorem listD_t (ds : List D) : listD [.tuple ds] = .ok (.fr (.lst ds)) := rfl
@[simp] theorem tupleD_l (ds : List D) : tupleD [.list ds] = .ok (.sh (.tuple ds)) := rfl
@[simp] theorem tupleD_t (ds : List D) : tupleD [.tuple ds] = .ok (.sh (.tuple ds)) := rfl
@[simp] theorem intD_i (i : Int) : intD [.int i] = .ok (.sh (.int i)) := rfl
@[simp] theorem maxD_ii (i j : Int) : maxD [.int i, .int j] = .ok (.sh (.int (max i j))) := by
  show R.ok (RV.sh (.int (if j > i then j else i))) = _
  congr 3
  split <;> omega
@[simp] theorem minD_ii (i j : Int) : minD [.int i, .int j] = .ok (.sh (.int (min i j))) := by
  show R.ok (RV.sh (.int (if j < i then j else i))) = _
  congr 3
  split <;> omega
@[simp] theorem absD_i (i : Int) : absD [.int i] = .ok (.sh (.int (if i < 0 then -i else i))) := rfl
@[simp] theorem cutD_l (xs : List D) (a b : Option Int) : cutD (.list xs) a b = .ok (.fr (.lst (cutL xs a b))) := rfl
@[simp] theorem cutD_t (xs : List D) (a b : Option Int) : cutD (.tuple xs) a b = .ok (.sh (.tuple (cutL xs a b))) := rfl
@[simp] theorem instD_v (T : String) (d : D) : instD T d = .ok (.sh (.bool (isInst T d))) := rfl
section
variable (b : Bool) (i : Int) (s : Str) (ds : List D) (kv : List (D × D))
@[simp] theorem in_n (T : String) : isInst T .none = false := rfl
@[simp] theorem in_d (T : String) : isInst T (.dict kv) = (T == "dict") := rfl
@[simp] theorem in_ib : isInst "int" (.bool b) = true := rfl
@[simp] theorem in_ii : isInst "int" (.int i) = true := rfl
@[simp] theorem in_is : isInst "int" (.str s) = false := rfl
@[simp] theorem in_il : isInst "int" (.list ds) = false := rfl
@[simp] theorem in_it : isInst "int" (.tuple ds) = false := rfl
@[simp] theorem in_bb : isInst "bool" (.bool b) = true := rfl
@[simp] theorem in_bi : isInst "bool" (.int i) = false := rfl
@[simp] theorem in_bs : isInst "bool" (.str s) = false := rfl
@[simp] theorem in_bl : isInst "bool" (.list ds) = false := rfl
@[simp] theorem in_bt : isInst "bool" (.tuple ds) = false := rfl
@[simp] theorem in_sb : isInst "str" (.bool b) = false := rfl
@[simp] theorem in_si : isInst "str" (.int i) = false := rfl
@[simp] theorem in_ss : isInst "str" (.str s) = true := rfl
@[simp] theorem in_sl : isInst "str" (.list ds) = false := rfl
@[simp] theorem in_st : isInst "str" (.tuple ds) = false := rfl
@[simp] theorem in_lb : isInst "list" (.bool b) = false := rfl
@[simp] theorem in_li : isInst "list" (.int i) = false := rfl
@[simp] theorem in_ls : isInst "list" (.str s) = false := rfl
@[simp] theorem in_ll : isInst "list" (.list ds) = true := rfl
@[simp] theorem in_lt : isInst "list" (.tuple ds) = false := rfl
@[simp] theorem in_tb : isInst "tuple" (.bool b) = false := rfl
@[simp] theorem in_ti : isInst "tuple" (.int i) = false := rfl
@[simp] theorem in_ts : isInst "tuple" (.str s) = false := rfl
@[simp] theorem in_tl : isInst "tuple" (.list ds) = false := rfl
@[simp] theorem in_tt : isInst "tuple" (.tuple ds) = true := rfl
end
/-! ### lists of ints, of truths -/
def iL (xs : List Int) : List D := xs.map .int
@[simp] theorem iL_len (xs : List Int) : (iL xs).length = xs.length := List.length_map ..
@[simp] theorem iL_nil : iL [] = [] := rfl
@[simp] theorem iL_cons (x : Int) (xs : List Int) : iL (x :: xs) = .int x :: iL xs := rfl
theorem iL_app (xs ys : List Int) : iL (xs ++ ys) = iL xs ++ iL ys := List.map_append ..
theorem iL_get (xs : List Int) (i : Nat) : (iL xs)[i]? = xs[i]?.map .int := List.getElem?_map ..
theorem intsOf_iL : ∀ xs : List Int, intsOf (iL xs) = some xs
  | [] => rfl
  | x :: xs => by simp [intsOf, intsOf_iL xs]
theorem boolsOf_mp {α : Type} (p : α → Bool) : ∀ xs : List α, boolsOf (xs.map fun a => .bool (p a)) = some (xs.map p)
  | [] => rfl
  | x :: xs => by simp [boolsOf, boolsOf_mp p xs]
theorem allD_map {α : Type} (p : α → Bool) (xs : List α) : allD [.list (xs.map fun a => .bool (p a))] = .ok (.sh (.bool (xs.all p))) := by
  simp only [allD, boolsOf_mp]
  congr 3
  rw [List.all_map]; rfl
theorem anyD_map {α : Type} (p : α → Bool) (xs : List α) : anyD [.list (xs.map fun a => .bool (p a))] = .ok (.sh (.bool (xs.any p))) := by
  simp only [anyD, boolsOf_mp]
  congr 3
  rw [List.any_map]; rfl
theorem sumD_iL (xs : List Int) : sumD [.list (iL xs)] = .ok (.sh (.int xs.sum)) := by simp only [sumD, intsOf_iL]
theorem rng_map (lo : Int) : ∀ (n : Nat) (lo : Int), rng lo n = (List.range n).map fun (k : Nat) => PyData.int (lo + k)
  | 0, lo => rfl
  | n + 1, lo => by
    rw [List.range_succ_eq_map, rng, rng_map 0 n, List.map_cons, List.map_map]
    have h : (PyData.int (lo + ((0 : Nat) : Int))) = .int lo := by simp
    rw [h]
    congr 1
    apply List.map_congr_left
    intro a _
    simp; omega
theorem rng0 (n : Nat) : rng 0 n = (List.range n).map fun (k : Nat) => PyData.int k := by
  rw [rng_map 0]; simp
theorem enumFrom_map (xs : List D) : ∀ (i : Int), enumFrom i xs = (xs.zipIdx).map fun p => .tuple [.int (i + p.2), p.1] := by
  suffices h : ∀ (xs : List D) (i : Int) (k : Nat), enumFrom (i + k) xs = (xs.zipIdx k).map fun p => .tuple [.int (i + p.2), p.1] from fun i => by
    have := h xs i 0; simpa using this
  intro xs
  induction xs with
  | nil => intro i k; rfl
  | cons x xs ih =>
    intro i k
    rw [enumFrom, List.zipIdx_cons, List.map_cons]
    congr 1
    have := ih i (k + 1)
    rw [← this]
    congr 1
    omega
theorem zipD_map {α β : Type} (f : α → D) (g : β → D) : ∀ (xs : List α) (ys : List β), zipD (xs.map f) (ys.map g) = (xs.zip ys).map fun p => .tuple [f p.1, g p.2]
  | [], ys => by cases ys <;> rfl
  | x :: xs, [] => rfl
  | x :: xs, y :: ys => by simp [zipD, zipD_map f g xs ys]
/-! ### comprehensions -/
def cs (tg : FG) (ts : FT) (el : FE) (own : List Nat) (x : D) (env : Env) : R (Option D × Env) :=
  (tg x env).nox.bnd fun e1 => (ts e1).bnd fun t => if t.1 then (el t.2).bnd fun r => (fz r.2 r.1).bnd fun y => .ok (some y.1, wipeE y.2 own) else .ok (none, wipeE t.2 own)
theorem compL_cs (tg : FG) (ts : FT) (el : FE) (own : List Nat) (x : D) (xs : List D) (env : Env) (acc : List D) : compL tg ts el own (x :: xs) env acc = (cs tg ts el own x env).bnd fun o => compL tg ts el own xs o.2 (acc ++ o.1.toList) := by
  rw [compL, cs]
  rw [R.bnd_assoc]; congr 1; funext e1
  rw [R.bnd_assoc]; congr 1; funext t
  split
  · rw [R.bnd_assoc]; congr 1; funext r
    rw [R.bnd_assoc]; rfl
  · simp
theorem compL_fm {tg : FG} {ts : FT} {el : FE} {own : List Nat} {env : Env} {α : Type} (c : α → D) (g : α → Option D) : ∀ (xs : List α) (h : ∀ a ∈ xs, cs tg ts el own (c a) env = .ok (g a, env)) (acc : List D),
    compL tg ts el own (xs.map c) env acc = .ok (acc ++ xs.filterMap g, env)
  | [], _, acc => by simp [compL]
  | x :: xs, h, acc => by
    rw [List.map_cons, compL_cs, h x (by simp), R.bnd_ok, compL_fm c g xs fun a ha => h a (List.mem_cons_of_mem _ ha)]
    cases e : g x <;> simp [List.filterMap_cons, e]
theorem compL_map {tg : FG} {ts : FT} {el : FE} {own : List Nat} {env : Env} {α : Type} (c : α → D) (f : α → D) (xs : List α) (h : ∀ a ∈ xs, cs tg ts el own (c a) env = .ok (some (f a), env)) :
    compL tg ts el own (xs.map c) env [] = .ok (xs.map f, env) := by
  rw [compL_fm c (fun a => some (f a)) xs h, List.nil_append]
  congr 2
  rw [List.filterMap_eq_map']
theorem compL_flt {tg : FG} {ts : FT} {el : FE} {own : List Nat} {env : Env} {α : Type} (c : α → D) (p : α → Bool) (f : α → D) (xs : List α) (h : ∀ a ∈ xs, cs tg ts el own (c a) env = .ok (if p a then some (f a) else none, env)) :
    compL tg ts el own (xs.map c) env [] = .ok ((xs.filter p).map f, env) := by
  rw [compL_fm c (fun a => if p a then some (f a) else none) xs h, List.nil_append]
  congr 2
  clear h
  induction xs with
  | nil => rfl
  | cons x xs ih =>
    rw [List.filterMap_cons, List.filter_cons]
    cases p x <;> simp [ih]
/-- drawn items -/
theorem compL_inv {tg : FG} {ts : FT} {el : FE} {own : List Nat} {I : Env → Prop} {Pd : D → Prop} : ∀ (xs : List D) (h : ∀ a ∈ xs, ∀ env, I env → ∃ d env', cs tg ts el own a env = .ok (some d, env') ∧ Pd d ∧ I env') (env : Env) (acc : List D), I env →
    ∃ ds env', compL tg ts el own xs env acc = .ok (acc ++ ds, env') ∧ I env' ∧ ds.length = xs.length ∧ ∀ d ∈ ds, Pd d
  | [], _, env, acc, i => ⟨[], env, by simp [compL], i, rfl, by simp⟩
  | x :: xs, h, env, acc, i => by
    obtain ⟨d, e1, h1, p1, i1⟩ := h x (by simp) env i
    obtain ⟨ds, e2, h2, i2, l2, p2⟩ := compL_inv xs (fun a ha => h a (List.mem_cons_of_mem _ ha)) e1 (acc ++ [d]) i1
    refine ⟨d :: ds, e2, ?_, i2, by simp [l2], fun z hz => ?_⟩
    · rw [compL_cs, h1, R.bnd_ok]
      show compL tg ts el own xs e1 (acc ++ [d]) = _
      rw [h2, List.append_assoc]; rfl
    · rcases List.mem_cons.mp hz with rfl | hz
      · exact p1
      · exact p2 z hz
/-! ### loops -/
def NxP (r : R Out) (I : Env → Prop) : Prop := ∃ e, r = .ok (.nx e) ∧ I e
def RtP (r : R Out) (v : RV) : Prop := ∃ e, r = .ok (.rt v e)
@[simp] theorem NxP_ok (e : Env) (I : Env → Prop) : NxP (.ok (.nx e)) I ↔ I e := ⟨fun ⟨e', h, i⟩ => by cases h; exact i, fun i => ⟨e, rfl, i⟩⟩
theorem NxP_cg {r r' : R Out} {I : Env → Prop} (h : r = r') : NxP r I = NxP r' I := by rw [h]
@[simp] theorem RtP_ok (e : Env) (v w : RV) : RtP (.ok (.rt v e)) w ↔ v = w := ⟨fun ⟨e', h⟩ => by cases h; rfl, fun i => ⟨e, by rw [i]⟩⟩
theorem NxP.bndO {r : R Out} {f : Out → R Out} {I J : Env → Prop} (h : NxP r J) (hf : ∀ e, J e → NxP (f (.nx e)) I) : NxP (r.bnd f) I := by
  obtain ⟨e, rfl, j⟩ := h
  exact hf e j
theorem RtP.bndO {r : R Out} {f : Out → R Out} {J : Env → Prop} {v : RV} (h : NxP r J) (hf : ∀ e, J e → RtP (f (.nx e)) v) : RtP (r.bnd f) v := by
  obtain ⟨e, rfl, j⟩ := h
  exact hf e j
theorem NxP.seq {s t : FS} {env : Env} {I : Env → Prop} (h : NxP (s env) fun e => NxP (t e) I) : NxP (sSeq s t env) I := by
  obtain ⟨e, h1, e2, h2, h3⟩ := h
  exact ⟨e2, by rw [v_seq, h1]; exact h2, h3⟩
theorem RtP.seq {s t : FS} {env : Env} {v : RV} (h : NxP (s env) fun e => RtP (t e) v) : RtP (sSeq s t env) v := by
  obtain ⟨e, h1, e2, h2⟩ := h
  exact ⟨e2, by rw [v_seq, h1]; exact h2⟩
theorem NxP.mono {r : R Out} {I J : Env → Prop} (h : NxP r I) (hi : ∀ e, I e → J e) : NxP r J := by
  obtain ⟨e, h1, h2⟩ := h
  exact ⟨e, h1, hi e h2⟩
theorem NxP.one {r : R Out} {I : Env → Prop} {e : Env} (h : r = .ok (.nx e)) (hi : I e) : NxP r I := ⟨e, h, hi⟩
theorem NxP.bnd {α : Type} {r : R α} {f : α → R Out} {I : Env → Prop} {a : α} (h : r = .ok a) (hi : NxP (f a) I) : NxP (r.bnd f) I := by rw [h]; exact hi
theorem forL_inv {tg : FG} {body : FS} {I : Env → Prop} : ∀ (xs : List D) (h : ∀ x ∈ xs, ∀ e, I e → ∃ e1, tg x e = .ok e1 ∧ NxP (body e1) I) (env : Env), I env → NxP (forL tg body xs env) I
  | [], _, env, i => ⟨env, rfl, i⟩
  | x :: xs, h, env, i => by
    obtain ⟨e1, h1, e2, h2, i2⟩ := h x (by simp) env i
    obtain ⟨e3, h3, i3⟩ := forL_inv xs (fun a ha => h a (List.mem_cons_of_mem _ ha)) e2 i2
    exact ⟨e3, by rw [forL, h1, R.nox_ok, R.bnd_ok, h2, R.bnd_ok]; exact h3, i3⟩
/-- with what was walked before -/
theorem forL_pre {tg : FG} {body : FS} {I : List D → Env → Prop} (h : ∀ pre x e, I pre e → ∀ post, pre ++ x :: post = pre ++ x :: post → ∃ e1, tg x e = .ok e1 ∧ NxP (body e1) (I (pre ++ [x]))) : ∀ (xs pre : List D) (env : Env), I pre env → NxP (forL tg body xs env) (I (pre ++ xs))
  | [], pre, env, i => ⟨env, rfl, by simpa using i⟩
  | x :: xs, pre, env, i => by
    obtain ⟨e1, h1, e2, h2, i2⟩ := h pre x env i xs rfl
    obtain ⟨e3, h3, i3⟩ := forL_pre h xs (pre ++ [x]) e2 i2
    exact ⟨e3, by rw [forL, h1, R.nox_ok, R.bnd_ok, h2, R.bnd_ok]; exact h3, by simpa using i3⟩
/-- by count -/
theorem forL_idx {tg : FG} {body : FS} {I : Nat → Env → Prop} {α : Type} {c : α → D} : ∀ (xs : List α) (m : Nat) (h : ∀ (k : Nat) (x : α), xs[k]? = some x → ∀ e, I (m + k) e → ∃ e1, tg (c x) e = .ok e1 ∧ NxP (body e1) (I (m + k + 1))) (env : Env), I m env → NxP (forL tg body (xs.map c) env) (I (m + xs.length))
  | [], m, _, env, i => ⟨env, rfl, i⟩
  | x :: xs, m, h, env, i => by
    obtain ⟨e1, h1, e2, h2, i2⟩ := h 0 x rfl env i
    obtain ⟨e3, h3, i3⟩ := forL_idx xs (m + 1) (fun k y hk e ie => by
      have := h (k + 1) y hk e (by rw [show m + (k + 1) = m + 1 + k by omega]; exact ie)
      rw [show m + (k + 1) + 1 = m + 1 + k + 1 by omega] at this
      exact this) e2 i2
    refine ⟨e3, by rw [List.map_cons, forL, h1, R.nox_ok, R.bnd_ok, h2, R.bnd_ok]; exact h3, ?_⟩
    rw [List.length_cons, show m + (xs.length + 1) = m + 1 + xs.length by omega]
    exact i3
theorem forL_rng {tg : FG} {body : FS} {I : Nat → Env → Prop} {n : Nat} {env : Env} (h : ∀ (k : Nat), k < n → ∀ e, I k e → ∃ e1, tg (.int (k : Int)) e = .ok e1 ∧ NxP (body e1) (I (k + 1))) (h0 : I 0 env) : NxP (forL tg body (rng 0 n) env) (I n) := by
  rw [rng0]
  have := forL_idx (tg := tg) (body := body) (I := I) (c := fun (k : Nat) => PyData.int k) (List.range n) 0 (fun k x hk e i => by
    obtain ⟨g, e1⟩ := List.getElem?_eq_some_iff.mp hk
    rw [List.getElem_range] at e1
    rw [List.length_range] at g
    subst e1
    rw [Nat.zero_add] at i ⊢
    exact h k g e i) env h0
  rw [List.length_range, Nat.zero_add] at this
  exact this
/-! ### the draws -/
structure Cup where
  x : Int
  y : Int
  ok : okCup x y
/-- the two cells of a cup -/
def cupD (c : Cup) : List D := [.int c.x, .int c.y]
def cupB (q a b m s : Int) : FS := sRet (fLst [fIf (tVal (fBin geD (fName 1) (fBin powD (fC (.int 10)) (fC (.int 18))))) (fBin fdivD (fName 1) (fC (.int q))) (fC (.int 0)), fBin addD (fBin modD (fBi intD [fBin addD (fBin mulD (fName 1) (fC (.int a))) (fC (.int b))]) (fC (.int m))) (fC (.int s))])
theorem cup_run {q a b m s : Int} (hq : 0 < q) (hq2 : q < 1073741824) (ha : 0 ≤ a) (ha2 : a < 2 ^ 64) (hm : 0 < m) (hs : 0 ≤ s) (hms : m + s < 2 ^ 32) (c : Int) (hc : 0 ≤ c) : ∃ x y env', okCup x y ∧ cupB q a b m s [none, some (.sh (.int c))] = .ok (.rt (.fr (.lst [.int x, .int y])) env') := by
  have h1 : powD (.int 10) (.int 18) = .ok (.sh (.int 1000000000000000000)) := by rfl
  have h2 : (c * a + b) % m < m := Int.emod_lt_of_pos _ hm
  have h3 : 0 ≤ (c * a + b) % m := Int.emod_nonneg _ (by omega)
  refine ⟨if 1000000000000000000 ≤ c then c / q else 0, (c * a + b) % m + s, [none, some (.sh (.int c))], ?_, ?_⟩
  rotate_left
  · have h4 := mulD_ii (i := c) (j := a) (.inr ⟨by omega, ha2⟩)
    by_cases h : 1000000000000000000 ≤ c
    · simp [cupB, h, h1, h4, fdivD_p hq hq2, modD_p hm]
    · simp [cupB, h, h1, h4, fdivD_p hq hq2, modD_p hm]
  · refine ⟨?_, by omega, by omega⟩
    split
    · exact Int.ediv_nonneg hc (by omega)
    · omega
def rollB (a b m e n d : Int) : FS := sSeq (sIf (tVal (fBin gtD (fBin ixD (fName 0) (fC (.int 0))) (fC (.int 0)))) (sSeq (sSet 2 (fBin modD (fBi intD [fBin ixD (fName 0) (fC (.int 0))]) (fName 1)))
  (sSeq (sPut 0 (fC (.int 0)) (fBin fdivD (fBin ixD (fName 0) (fC (.int 0))) (fName 1)))
  (sRet (fName 2)))) (sSkip))
  (sSeq (sPut 0 (fC (.int 1)) (fBin modD (fBi intD [fBin addD (fBin mulD (fBin ixD (fName 0) (fC (.int 1))) (fC (.int a))) (fC (.int b))]) (fC (.int m))))
  (sSeq (sSet 3 (fBin modD (fBi intD [fBin mulD (fBin ixD (fName 0) (fC (.int 1))) (fBin addD (fBin ixD (fName 0) (fC (.int 1))) (fC (.int e)))]) (fC (.int n))))
  (sRet (fBin modD (fBi intD [fBin fdivD (fName 3) (fC (.int d))]) (fName 1)))))
theorem ix0 (x y : D) : ixD (.list [x, y]) (.int 0) = .ok (.sh x) := rfl
theorem ix1 (x y : D) : ixD (.list [x, y]) (.int 1) = .ok (.sh y) := rfl
theorem ixN20 : ixN 2 0 = some 0 := rfl
theorem ixN21 : ixN 2 1 = some 1 := rfl
theorem roll_run {a b m e n d : Int} (ha : 0 < a) (ha2 : a < 2 ^ 64) (hm : 0 < m) (hm2 : m ≤ 2 ^ 32) (hn : 0 < n) (hd : 0 < d) (hd2 : d < 1073741824) (c : Cup) (k : Int) (hk : 0 < k) (hk2 : k < 1073741824) :
    ∃ (r : Int) (c' : Cup), runIO 4 (rollB a b m e n d) (cupD c) [.int k] = .ok (.sh (.int r), cupD c') ∧ 0 ≤ r ∧ r < k := by
  obtain ⟨x, y, o1, o2, o3⟩ := c
  by_cases h : 0 < x
  · refine ⟨x % k, ⟨x / k, y, Int.ediv_nonneg (by omega) (by omega), o2, o3⟩, ?_, Int.emod_nonneg _ (by omega), Int.emod_lt_of_pos _ hk⟩
    simp [v_runIO, rollB, cupD, ix0, ix1, ixN20, ixN21, modD_p hk, fdivD_p hk hk2, h]
  · have h2 : (y * a + b) % m < m := Int.emod_lt_of_pos _ hm
    have h3 : 0 ≤ (y * a + b) % m := Int.emod_nonneg _ (by omega)
    refine ⟨((y * a + b) % m * ((y * a + b) % m + e) % n / d) % k, ⟨x, (y * a + b) % m, o1, h3, by omega⟩, ?_, Int.emod_nonneg _ (by omega), Int.emod_lt_of_pos _ hk⟩
    simp [v_runIO, rollB, cupD, ix0, ix1, ixN20, ixN21, modD_p hk, modD_p hm, modD_p hn, fdivD_p hd hd2, h, mulD_ii (i := y) (j := a) (.inr ⟨by omega, ha2⟩)]
    rw [mulD_ii (.inl ⟨by omega, by omega⟩)]
    simp [modD_p hk, modD_p hm, modD_p hn, fdivD_p hd hd2]
def someB (roll : List D → List D → R (RV × List D)) : FS := sRet (fBin ixD (fName 1) (fCallIO roll 0 [fBi lenD [fName 1]]))
theorem some_run {roll : List D → List D → R (RV × List D)} (hr : ∀ (c : Cup) (k : Int), 0 < k → k < 1073741824 → ∃ (r : Int) (c' : Cup), roll (cupD c) [.int k] = .ok (.sh (.int r), cupD c') ∧ 0 ≤ r ∧ r < k)
    (c : Cup) (ds : List D) (h : ds ≠ []) (h2 : ds.length < 1073741824) : (∃ (x : D) (c' : Cup), x ∈ ds ∧ runIO 2 (someB roll) (cupD c) [.list ds] = .ok (.sh x, cupD c')) ∧ ∃ (x : D) (c' : Cup), x ∈ ds ∧ runIO 2 (someB roll) (cupD c) [.tuple ds] = .ok (.sh x, cupD c') := by
  have hp := List.length_pos_iff.mpr h
  obtain ⟨r, c', e, r0, r1⟩ := hr c ds.length (by omega) (by omega)
  have hl : r.toNat < ds.length := by omega
  have hg : PI.atI ds r = some ds[r.toNat] := atI_of r0 (List.getElem?_eq_getElem hl)
  refine ⟨⟨ds[r.toNat], c', List.getElem_mem _, ?_⟩, ⟨ds[r.toNat], c', List.getElem_mem _, ?_⟩⟩
  · simp [v_runIO, someB, e, ixD_l hg]
  · simp [v_runIO, someB, e, ixD_t hg]
/-! ### sameness -/
def sameB (self : List D → R RV) : FS := sSeq (sIf (tVal (fUn (instD "tuple") (fName 1))) (sSeq (sIf (PI.tOr (PI.tNot (tVal (fUn (instD "tuple") (fName 0)))) (tVal (fBin PI.neD (fBi lenD [fName 0]) (fBi lenD [fName 1])))) (sRet (fC (.bool false))) (sSkip))
  (sRet (fBi allD [fComp [2] (iRange1 (fBi lenD [fName 1])) (gName 2) (PI.tYes) (fCall self [fBin ixD (fName 0) (fName 2), fBin ixD (fName 1) (fName 2)])]))) (sSkip))
  (sSeq (sIf (tVal (fBin isD (fName 1) (fC .none))) (sRet (fBin isD (fName 0) (fC .none))) (sSkip))
  (sSeq (sIf (tVal (fUn (instD "bool") (fName 1))) (sRet (fIf (tVal (fName 1)) (fBin isD (fName 0) (fC (.bool true))) (fBin isD (fName 0) (fC (.bool false))))) (sSkip))
  (sSeq (sIf (tVal (fUn (instD "int") (fName 1))) (sRet (fAnd (fUn (instD "int") (fName 0)) (fAnd (fNot (fUn (instD "bool") (fName 0))) (fBin PI.eqD (fBi intD [fName 0]) (fName 1))))) (sSkip))
  (sRet (fAnd (fUn (instD "str") (fName 0)) (fBin PI.eqD (fBi strD [fName 0]) (fName 1)))))))
/-- numbers, truths, None, tuples of such -/
inductive Pl : Nat → D → Prop
  | non {k : Nat} : Pl k .none
  | bl {k : Nat} (b : Bool) : Pl k (.bool b)
  | int {k : Nat} (i : Int) : Pl k (.int i)
  | tup {k : Nat} {ds : List D} (h : ∀ d ∈ ds, Pl k d) (hl : ds.length ≤ 16777216) : Pl (k + 1) (.tuple ds)
theorem same_run {M : Nat → List D → R RV} (hM : ∀ k, M (k + 1) = runF 3 (sameB (M k))) : ∀ (k : Nat) (d : D), Pl k d → M (k + 1) [d, d] = .ok (.sh (.bool true)) := by
  intro k
  induction k with
  | zero =>
    intro d h
    rw [hM]
    cases h with
    | non => simp [v_run, sameB]
    | bl b => cases b <;> simp [v_run, sameB]
    | int i => simp [v_run, sameB]
  | succ k ih =>
    intro d h
    rw [hM]
    cases h with
    | non => simp [v_run, sameB]
    | bl b => cases b <;> simp [v_run, sameB]
    | int i => simp [v_run, sameB]
    | tup h hl =>
      rename_i ds
      simp [v_run, sameB, rng0]
      rw [if_pos (by omega)]
      simp
      rw [compL_map (fun (k : Nat) => PyData.int k) (fun (_ : Nat) => .bool true)]
      · simp
        rw [allD_map (fun _ => true)]
        simp
      · intro a ha
        have ha : a < ds.length := List.mem_range.mp ha
        have hg : PI.atI ds (a : Int) = some ds[a] := atI_of (by omega) (List.getElem?_eq_getElem ha)
        simp [cs, ixD_t hg]
        rw [ih _ (h _ (List.getElem_mem ha))]
        simp
end PI
set_option autoImplicit true
set_option Elab.async false
set_option linter.all false
set_option maxRecDepth 100000
/-! Pi12: places of lists of ints, cuts, walks by place. -/
namespace PI
open PySem
section
variable {tg : FG} {ts : FT} {el : FE} {own : List Nat} {env : Env}
theorem compL_mapD (f : D → D) (xs : List D) (h : ∀ a ∈ xs, cs tg ts el own a env = .ok (some (f a), env)) : compL tg ts el own xs env [] = .ok (xs.map f, env) := by
  have := compL_map (tg := tg) (ts := ts) (el := el) (own := own) (env := env) id f xs h
  rwa [List.map_id] at this
theorem compL_fltD (p : D → Bool) (f : D → D) (xs : List D) (h : ∀ a ∈ xs, cs tg ts el own a env = .ok (if p a then some (f a) else none, env)) : compL tg ts el own xs env [] = .ok ((xs.filter p).map f, env) := by
  have := compL_flt (tg := tg) (ts := ts) (el := el) (own := own) (env := env) id p f xs h
  rwa [List.map_id] at this
/-- nothing is kept -/
theorem compL_none (xs : List D) (h : ∀ a ∈ xs, cs tg ts el own a env = .ok (none, env)) : compL tg ts el own xs env [] = .ok ([], env) := by
  have := compL_fltD (fun _ => false) id xs (fun a ha => by rw [h a ha]; rfl)
  rw [this, List.filter_eq_nil_iff.mpr (by simp)]; rfl
theorem compL_rng (f : Nat → D) (n : Nat) (h : ∀ k, k < n → cs tg ts el own (.int (k : Int)) env = .ok (some (f k), env)) : compL tg ts el own (rng 0 n) env [] = .ok ((List.range n).map f, env) := by
  rw [rng0]
  exact compL_map (fun (k : Nat) => .int (k : Int)) f (List.range n) fun a ha => h a (List.mem_range.mp ha)
theorem compL_rngF (p : Nat → Bool) (f : Nat → D) (n : Nat) (h : ∀ k, k < n → cs tg ts el own (.int (k : Int)) env = .ok (if p k then some (f k) else none, env)) : compL tg ts el own (rng 0 n) env [] = .ok (((List.range n).filter p).map f, env) := by
  rw [rng0]
  exact compL_flt (fun (k : Nat) => .int (k : Int)) p f (List.range n) fun a ha => h a (List.mem_range.mp ha)
end
/-- the item at a place -/
def nth (xs : List Int) (k : Nat) : Int := xs.getD k 0
theorem nth_eq {xs : List Int} {k : Nat} (h : k < xs.length) : nth xs k = xs[k] := by simp [nth, h]
theorem nth_get? {xs : List Int} {k : Nat} (h : k < xs.length) : xs[k]? = some (nth xs k) := by rw [nth_eq h]; exact List.getElem?_eq_getElem h
theorem nth_mem {xs : List Int} {k : Nat} (h : k < xs.length) : nth xs k ∈ xs := by rw [nth_eq h]; exact List.getElem_mem h
theorem mem_nth {xs : List Int} {x : Int} (h : x ∈ xs) : ∃ k, k < xs.length ∧ nth xs k = x := by
  obtain ⟨k, hk, e⟩ := List.mem_iff_getElem.mp h
  exact ⟨k, hk, by rw [nth_eq hk, e]⟩
theorem ext_nth {xs ys : List Int} (hl : xs.length = ys.length) (h : ∀ k, k < xs.length → nth xs k = nth ys k) : xs = ys := by
  apply List.ext_getElem hl
  intro i h1 h2
  rw [← nth_eq h1, ← nth_eq h2]; exact h i h1
theorem nth_app1 {xs ys : List Int} {k : Nat} (h : k < xs.length) : nth (xs ++ ys) k = nth xs k := by
  rw [nth_eq (by simp; omega), nth_eq h, List.getElem_append_left h]
theorem nth_app2 {xs ys : List Int} {k : Nat} (h : xs.length ≤ k) : nth (xs ++ ys) k = nth ys (k - xs.length) := by
  unfold nth
  rw [List.getD_eq_getElem?_getD, List.getElem?_append_right h, ← List.getD_eq_getElem?_getD]
theorem nth_snoc {xs : List Int} {x : Int} : nth (xs ++ [x]) xs.length = x := by
  rw [nth_app2 (Nat.le_refl _), Nat.sub_self]; rfl
theorem nth_take {xs : List Int} {n k : Nat} (h : k < n) : nth (xs.take n) k = nth xs k := by
  unfold nth
  rw [List.getD_eq_getElem?_getD, List.getElem?_take_of_lt h, ← List.getD_eq_getElem?_getD]
theorem nth_drop {xs : List Int} {n k : Nat} : nth (xs.drop n) k = nth xs (n + k) := by
  unfold nth
  rw [List.getD_eq_getElem?_getD, List.getElem?_drop, ← List.getD_eq_getElem?_getD]
theorem nth_rep {n k : Nat} {x : Int} (h : k < n) : nth (List.replicate n x) k = x := by
  rw [nth_eq (by simpa using h)]; simp
theorem nth_rng {f : Nat → Int} {n k : Nat} (h : k < n) : nth ((List.range n).map f) k = f k := by
  rw [nth_eq (by simpa using h)]; simp
@[simp] theorem nth_cons0 {x : Int} {xs : List Int} : nth (x :: xs) 0 = x := rfl
@[simp] theorem nth_cons {x : Int} {xs : List Int} {k : Nat} : nth (x :: xs) (k + 1) = nth xs k := rfl
theorem list_rng (xs : List Int) : xs = (List.range xs.length).map (nth xs) := ext_nth (by simp) fun k h => by rw [nth_rng h]
theorem iL_rng (xs : List Int) : iL xs = (List.range xs.length).map fun k => .int (nth xs k) := by
  conv => lhs; rw [list_rng xs]
  rw [iL, List.map_map]; rfl
theorem iL_inj : ∀ {xs ys : List Int} (h : iL xs = iL ys), xs = ys
  | [], [], _ => rfl
  | [], _ :: _, h => by simp at h
  | _ :: _, [], h => by simp at h
  | x :: xs, y :: ys, h => by
    simp only [iL_cons, List.cons.injEq, PyData.int.injEq] at h
    rw [h.1, iL_inj h.2]
theorem iL_rep (n : Nat) (x : Int) : List.replicate n (PyData.int x) = iL (List.replicate n x) := by simp [iL]
theorem iL_snoc (xs : List Int) (x : Int) : iL xs ++ [.int x] = iL (xs ++ [x]) := by simp [iL]
theorem iL_take (xs : List Int) (n : Nat) : (iL xs).take n = iL (xs.take n) := by simp [iL, List.map_take]
theorem iL_drop (xs : List Int) (n : Nat) : (iL xs).drop n = iL (xs.drop n) := by simp [iL, List.map_drop]
theorem map_int (f : Nat → Int) (n : Nat) : ((List.range n).map fun k => PyData.int (f k)) = iL ((List.range n).map f) := by simp [iL]
theorem atI_nth {xs : List Int} {k : Nat} (h : k < xs.length) : PI.atI (iL xs) (k : Int) = some (.int (nth xs k)) := atI_of (by omega) (by
  rw [show ((k : Int)).toNat = k by omega, iL_get, nth_get? h]; rfl)
theorem atI_int {xs : List Int} {i : Int} (h0 : 0 ≤ i) (h : i < xs.length) : PI.atI (iL xs) i = some (.int (nth xs i.toNat)) := atI_of h0 (by
  rw [iL_get, nth_get? (by omega)]; rfl)
theorem ixT {xs : List Int} {k : Nat} (h : k < xs.length) : ixD (.tuple (iL xs)) (.int (k : Int)) = .ok (.sh (.int (nth xs k))) := ixD_t (atI_nth h)
theorem ixL {xs : List Int} {k : Nat} (h : k < xs.length) : ixD (.list (iL xs)) (.int (k : Int)) = .ok (.sh (.int (nth xs k))) := ixD_l (atI_nth h)
theorem ixT_i {xs : List Int} {i : Int} (h0 : 0 ≤ i) (h : i < xs.length) : ixD (.tuple (iL xs)) (.int i) = .ok (.sh (.int (nth xs i.toNat))) := ixD_t (atI_int h0 h)
theorem ixL_i {xs : List Int} {i : Int} (h0 : 0 ≤ i) (h : i < xs.length) : ixD (.list (iL xs)) (.int i) = .ok (.sh (.int (nth xs i.toNat))) := ixD_l (atI_int h0 h)
theorem enum_rng {α : Type} (f : α → D) (d : α) (xs : List α) : enumFrom 0 (xs.map f) = (List.range xs.length).map fun (k : Nat) => .tuple [.int k, f (xs.getD k d)] := by
  rw [enumFrom_map]
  apply List.ext_getElem (by simp)
  intro i h1 h2
  simp at h1 h2
  simp [h1]
theorem enum_iL (xs : List Int) : enumFrom 0 (iL xs) = (List.range xs.length).map fun (k : Nat) => .tuple [.int k, .int (nth xs k)] := enum_rng _ 0 xs
theorem zip_iL (xs ys : List Int) : zipD (iL xs) (iL ys) = (List.range (min xs.length ys.length)).map fun (k : Nat) => .tuple [.int (nth xs k), .int (nth ys k)] := by
  unfold iL
  rw [zipD_map]
  apply List.ext_getElem (by simp)
  intro i h1 h2
  simp at h1 h2
  have g1 : i < xs.length := by omega
  have g2 : i < ys.length := by omega
  simp [nth, g1, g2]
theorem mulD_tn {n : Nat} (d : D) (h : 1 ≤ n) (h2 : n ≤ 1000) : mulD (.tuple [d]) (.int (n : Int)) = .ok (.sh (.tuple (List.replicate n d))) := mulD_ti (by omega) (by omega)
theorem mulD_tm {n : Nat} (d : D) (h : 2 ≤ n) (h2 : n ≤ 1000) : mulD (.tuple [d]) (.int ((n : Int) - 1)) = .ok (.sh (.tuple (List.replicate (n - 1) d))) := by
  rw [show (n : Int) - 1 = ((n - 1 : Nat) : Int) by omega]
  exact mulD_tn d (by omega) (by omega)
/-! ### cuts -/
theorem cutL_from {α : Type} (xs : List α) {i : Int} (h : 0 ≤ i) : cutL xs (some i) none = xs.drop i.toNat := by
  unfold cutL
  simp only [PI.bnd]
  rw [if_neg (by omega)]
  rw [List.take_of_length_le (by simp)]
  rcases Nat.le_total i.toNat xs.length with g | g
  · rw [Nat.min_eq_left g]
  · rw [Nat.min_eq_right g, List.drop_eq_nil_of_le (Nat.le_refl _), List.drop_eq_nil_of_le g]
theorem cutL_to {α : Type} (xs : List α) {i : Int} (h : 0 ≤ i) : cutL xs none (some i) = xs.take i.toNat := by
  unfold cutL
  simp only [PI.bnd]
  rw [if_neg (by omega), List.drop_zero, Nat.sub_zero]
  rcases Nat.le_total i.toNat xs.length with g | g
  · rw [Nat.min_eq_left g]
  · rw [Nat.min_eq_right g, List.take_of_length_le (Nat.le_refl _), List.take_of_length_le g]
theorem cutL_fromN {α : Type} (xs : List α) (k : Nat) : cutL xs (some (k : Int)) none = xs.drop k := by rw [cutL_from xs (by omega)]; rfl
theorem cutL_toN {α : Type} (xs : List α) (k : Nat) : cutL xs none (some (k : Int)) = xs.take k := by rw [cutL_to xs (by omega)]; rfl
theorem cutL_both {α : Type} (xs : List α) {i j : Int} (h : 0 ≤ i) (h2 : 0 ≤ j) : cutL xs (some i) (some j) = (xs.drop i.toNat).take (j.toNat - i.toNat) := by
  unfold cutL
  simp only [PI.bnd]
  rw [if_neg (by omega), if_neg (by omega)]
  rcases Nat.le_total i.toNat xs.length with g | g
  · rw [Nat.min_eq_left g]
    rcases Nat.le_total j.toNat xs.length with g2 | g2
    · rw [Nat.min_eq_left g2]
    · rw [Nat.min_eq_right g2, List.take_of_length_le (by simp), List.take_of_length_le (by simp; omega)]
  · rw [Nat.min_eq_right g, List.drop_eq_nil_of_le (Nat.le_refl _), List.drop_eq_nil_of_le g]; simp
@[simp ↓] theorem v_rg1 (a : FE) (env : Env) : rg1 a env = (a env).bnd fun x => (match x.1 with
  | .sh (.int j) => if rgOk 0 j then .ok (((0 : Int), j), x.2) else .bad
  | _ => .bad) := rfl
@[simp ↓] theorem v_rg2 (a b : FE) (env : Env) : rg2 a b env = (a env).bnd fun x => (b x.2).bnd fun y => (match x.1, y.1 with
  | .sh (.int i), .sh (.int j) => if rgOk i j then .ok ((i, j), y.2) else .bad
  | _, _ => .bad) := rfl
@[simp ↓] theorem v_tuprg (r : Env → R ((Int × Int) × Env)) (env : Env) : fTupRg r env = (r env).bnd fun x => .ok (.sh (.tuple (rng x.1.1 (x.1.2 - x.1.1).toNat)), x.2) := rfl
@[simp ↓] theorem v_lstrg (r : Env → R ((Int × Int) × Env)) (env : Env) : fLstRg r env = (r env).bnd fun x => .ok (.fr (.lst (rng x.1.1 (x.1.2 - x.1.1).toNat)), x.2) := rfl
theorem rgOk_of {i j : Int} (h : i.natAbs ≤ 4194304) (h2 : j.natAbs ≤ 4194304) : rgOk i j = true := decide_eq_true ⟨h, h2⟩
theorem rng_iL (lo : Int) (n : Nat) : rng lo n = iL ((List.range n).map fun (k : Nat) => lo + k) := by rw [rng_map 0, map_int fun (k : Nat) => lo + (k : Int)]
/-! ### walks -/
/-- a range that does not begin at 0 -/
theorem forL_rng2 {tg : FG} {body : FS} {I : Nat → Env → Prop} {lo : Int} {n : Nat} {env : Env} (h : ∀ (k : Nat), k < n → ∀ e, I k e → ∃ e1, tg (.int (lo + k)) e = .ok e1 ∧ NxP (body e1) (I (k + 1))) (h0 : I 0 env) : NxP (forL tg body (rng lo n) env) (I n) := by
  rw [rng_map 0]
  have := forL_idx (tg := tg) (body := body) (I := I) (c := fun (k : Nat) => PyData.int (lo + k)) (List.range n) 0 (fun k x hk e i => by
    obtain ⟨g, e1⟩ := List.getElem?_eq_some_iff.mp hk
    rw [List.getElem_range] at e1
    rw [List.length_range] at g
    subst e1
    rw [Nat.zero_add] at i ⊢
    exact h k g e i) env h0
  rw [List.length_range, Nat.zero_add] at this
  exact this
/-- over places -/
theorem forL_range {tg : FG} {body : FS} {I : Nat → Env → Prop} {c : Nat → D} {n : Nat} {env : Env} (h : ∀ (k : Nat), k < n → ∀ e, I k e → ∃ e1, tg (c k) e = .ok e1 ∧ NxP (body e1) (I (k + 1))) (h0 : I 0 env) : NxP (forL tg body ((List.range n).map c) env) (I n) := by
  have := forL_idx (tg := tg) (body := body) (I := I) (c := c) (List.range n) 0 (fun k x hk e i => by
    obtain ⟨g, e1⟩ := List.getElem?_eq_some_iff.mp hk
    rw [List.getElem_range] at e1
    rw [List.length_range] at g
    subst e1
    rw [Nat.zero_add] at i ⊢
    exact h k g e i) env h0
  rw [List.length_range, Nat.zero_add] at this
  exact this
/-- the first that is found -/
theorem find_min {p : Nat → Bool} {n m : Nat} (hm : m < n) (hp : p m = true) (hl : ∀ k, k < m → p k = false) : ((List.range n).filter p)[0]? = some m := by
  have : List.range n = List.range m ++ (List.range (n - m)).map (m + ·) := by
    rw [← List.range_add, show m + (n - m) = n by omega]
  rw [this, List.filter_append]
  have h1 : (List.range m).filter p = [] := by
    rw [List.filter_eq_nil_iff]
    intro a ha
    rw [hl a (List.mem_range.mp ha)]; simp
  rw [h1, List.nil_append, show n - m = (n - m - 1) + 1 by omega, List.range_succ_eq_map, List.map_cons, List.filter_cons, Nat.add_zero, if_pos hp]
  rfl
end PI
set_option autoImplicit false
set_option Elab.async false
set_option linter.all false
set_option maxRecDepth 100000
set_option autoImplicit false
/-! Pi13: x += a list. -/
namespace PI
open PySem PySem.Spec PyProof.Rows L2
open R (RD_bnd)
def sExt (i : Nat) (a : FE) : FS := fun env => if isOwnL env[i]? then (a env).bnd fun x => (rd x.2 x.1).bnd fun d => match d, x.2[i]? with
    | .list es, some (some (.ow k (.lst ds))) => if ds.length + es.length ≤ 16777216 then .ok (.nx (x.2.set i (some (.ow k (.lst (ds ++ es)))))) else .bad
    | _, _ => .bad
  else .bad
@[simp ↓] theorem v_ext (i : Nat) (a : FE) (env : PI.Env) : sExt i a env = (if isOwnL env[i]? then (a env).bnd fun x => (rd x.2 x.1).bnd fun d => (match d, x.2[i]? with
    | .list es, some (some (.ow k (.lst ds))) => if ds.length + es.length ≤ 16777216 then .ok (.nx (x.2.set i (some (.ow k (.lst (ds ++ es)))))) else .bad
    | _, _ => .bad)
  else .bad) := rfl
section
variable [Tables] {X : Cx} {E : XE} {pos : Pos} {fa : FE}
theorem gs_ext (i : Nat) {x : Str} {e : Expr} {pos' : Pos} (hN : X.N.Nodup) (ha : GE X E e fa) (hi : X.N[i]? = some x := by rfl) (hx : Loc X.env.scope x := by first | exact Or.inl rfl | exact Or.inr rfl) (hf : X.fn x = true ∨ X.env.scope.names.lookup x = some .local := by first | exact .inl rfl | exact .inr rfl | assumption) :
    GS X E (.AugAssign (.Name x pos') .Add e pos) (sExt i fa) := by
  refine PS.imp (ps_aug hN hi hx ha (op := .Add) (ti := rExt2) (fun pins s σ H x y v u Q I r1 r2 h => iop_ext pins s σ H x y v u Q I r1 r2 h) hf) fun De σ H ⟨S, Hs, env, ok, h⟩ => ?_
  unfold sExt at h
  split at h
  · rename_i hown
    obtain ⟨k, ds, hown⟩ := isOwnL_inv hown
    obtain ⟨p, e1, hO⟩ := ok.slot i _ hown
    refine ⟨.ref p, e1, ?_⟩
    refine tI.mono (bindE ok h) fun v H1 ⟨Hs1, y, s1, o1, r1, q⟩ => ?_
    obtain ⟨d, hd, q⟩ := RD.inv (rd_nox _ _) q
    have t := o1.rd r1 hd
    split at q
    · rename_i ds1 es k2 ds2 h2
      obtain ⟨p2, e2, hO2⟩ := o1.slot i _ h2
      rw [e1] at e2; cases e2
      obtain ⟨ob2, hob2, xs, ex, hz, hdd⟩ := hO2.2.2.1
      subst ex
      obtain ⟨b, zs, eb, hb, hlb, hdz⟩ := t.list o1.sub
      subst eb
      split at q
      · rename_i hlt
        refine ⟨p, b, xs, zs, rfl, rfl, hob2, hb, by rw [hdd.length, hdz.length, sizeL]; exact hlt, ?_⟩
        have hs : σ.set i (some (.ref p)) = σ := by
          apply List.ext_getElem?
          intro j
          rw [List.getElem?_set]
          split
          · rename_i hij
            subst hij
            split
            · exact e1.symm
            · rename_i hlen
              rw [List.getElem?_eq_none (by omega)] at e1; cases e1
          · rfl
        show De.nx (σ.set i (some (.ref p))) _
        rw [hs]
        exact q σ Hs1 _ s1 (o1.write h2 e1 ⟨xs ++ zs, rfl, by rw [List.length_append, hdd.length, hdz.length, sizeL]; exact hlt, hdd.append hdz⟩)
      · exact q.elim
    · exact q.elim
  · exact h.elim
end
end PI
set_option autoImplicit true
set_option Elab.async false
set_option linter.all false
set_option maxRecDepth 100000
/-! Pi14: whole numbers, tuples of them; sameness of plain data; places. -/
namespace PI
open PySem
/-! ### is_whole, is_tuple_of -/
def whole (lo hi : Int) : D → Bool
  | .int v => decide (lo ≤ v) && decide (v ≤ hi)
  | _ => false
def wholeB : FS := sRet (fAnd (fUn (instD "int") (fName 0)) (fAnd (fNot (fUn (instD "bool") (fName 0))) (fChain leD leD (fName 1) (fName 0) (fName 2))))
theorem whole_run (d : D) (lo hi : Int) : runF 3 wholeB [d, .int lo, .int hi] = .ok (.sh (.bool (whole lo hi d))) := by
  cases d with
  | int v => by_cases h : lo ≤ v <;> simp [v_run, wholeB, whole, h]
  | _ => simp [v_run, wholeB, whole]
def tupOf (lo hi : Int) : D → Bool
  | .tuple ds => decide (lo ≤ ds.length) && decide (ds.length ≤ hi)
  | _ => false
def tupB : FS := sRet (fAnd (fUn (instD "tuple") (fName 0)) (fChain leD leD (fName 1) (fBi lenD [fName 0]) (fName 2)))
theorem tup_run (d : D) (lo hi : Int) : runF 3 tupB [d, .int lo, .int hi] = .ok (.sh (.bool (tupOf lo hi d))) := by
  cases d with
  | tuple ds => by_cases h : lo ≤ ds.length <;> simp [v_run, tupB, tupOf, h]
  | _ => simp [v_run, tupB, tupOf]
/-- a tuple of n to m whole numbers -/
def tupW (n m : Nat) (lo hi : Int) : D → Bool
  | .tuple ds => decide (n ≤ ds.length ∧ ds.length ≤ m) && ds.all (whole lo hi)
  | _ => false
def tupWB (T W : List D → R RV) (n m : Nat) (lo hi : Int) : FS := sRet (fAnd (fCall T [fName 0, fC (.int n), fC (.int m)]) (fBi allD [fComp [1] (iSeq (fName 0)) (gName 1) (PI.tYes) (fCall W [fName 1, fC (.int lo), fC (.int hi)])]))
theorem tupW_run {T W : List D → R RV} (hT : ∀ d lo hi, T [d, .int lo, .int hi] = .ok (.sh (.bool (tupOf lo hi d)))) (hW : ∀ d lo hi, W [d, .int lo, .int hi] = .ok (.sh (.bool (whole lo hi d)))) (n m : Nat) (lo hi : Int) (d : D) :
    runF 2 (tupWB T W n m lo hi) [d] = .ok (.sh (.bool (tupW n m lo hi d))) := by
  cases d with
  | tuple ds =>
    simp [v_run, tupWB, hT, tupOf]
    by_cases h : n ≤ ds.length ∧ ds.length ≤ m
    · simp [h]
      rw [compL_mapD (fun a => .bool (whole lo hi a)) _ fun a _ => by simp [cs, hW]]
      simp [allD_map]
      rw [tupW, decide_eq_true h, Bool.true_and]
    · simp [h]
      rw [tupW, decide_eq_false h, Bool.false_and]
  | _ => simp [v_run, tupWB, hT, tupOf, tupW]
theorem whole_ints {lo hi : Int} : ∀ {ds : List D}, ds.all (whole lo hi) = true → ∃ ys, ds = iL ys ∧ ∀ y ∈ ys, lo ≤ y ∧ y ≤ hi
  | [], _ => ⟨[], rfl, by simp⟩
  | d :: ds, h => by
    rw [List.all_cons, Bool.and_eq_true] at h
    obtain ⟨ys, e, hy⟩ := whole_ints h.2
    cases d with
    | int v =>
      have hv : lo ≤ v ∧ v ≤ hi := by simpa [whole] using h.1
      exact ⟨v :: ys, by rw [e]; rfl, fun y m => by
        rcases List.mem_cons.mp m with rfl | m
        · exact hv
        · exact hy y m⟩
    | _ => simp [whole] at h
theorem ints_whole {lo hi : Int} {ys : List Int} (h : ∀ y ∈ ys, lo ≤ y ∧ y ≤ hi) : (iL ys).all (whole lo hi) = true := by
  rw [iL, List.all_map, List.all_eq_true]
  intro y hy
  have := h y hy
  simp [whole, this]
theorem tupW_iL {n m : Nat} {lo hi : Int} {ys : List Int} (h1 : n ≤ ys.length) (h2 : ys.length ≤ m) (h : ∀ y ∈ ys, lo ≤ y ∧ y ≤ hi) : tupW n m lo hi (.tuple (iL ys)) = true := by
  rw [tupW, ints_whole h, iL_len, decide_eq_true ⟨h1, h2⟩]; rfl
/-! ### numbers of places -/
def nL (ks : List Nat) : List D := ks.map fun (k : Nat) => PyData.int k
@[simp] theorem nL_len (ks : List Nat) : (nL ks).length = ks.length := List.length_map ..
theorem nL_iL (ks : List Nat) : nL ks = iL (ks.map fun (k : Nat) => (k : Int)) := by simp [nL, iL]
theorem pl_iL {n : Nat} {xs : List Int} (h : xs.length ≤ 16777216) : Pl (n + 1) (.tuple (iL xs)) := .tup (fun d hd => by
  obtain ⟨v, _, rfl⟩ := List.mem_map.mp hd
  exact .int _) (by simpa using h)
theorem pl_nL {n : Nat} {ks : List Nat} (h : ks.length ≤ 16777216) : Pl (n + 1) (.tuple (nL ks)) := by rw [nL_iL]; exact pl_iL (by simpa using h)
theorem depth_iL (xs : List Int) : PyData.depthAll (iL xs) = 0 := Nat.le_zero.mp (depthAll_le fun x hx => by
  obtain ⟨k, _, rfl⟩ := List.mem_map.mp hx
  rw [depth_i]; omega)
theorem eqvAll_iL : ∀ (xs ys : List Int), PyData.eqvAll (iL xs) (iL ys) = decide (xs = ys)
  | [], [] => by simp [PyData.eqvAll]
  | [], y :: ys => by simp [PyData.eqvAll]
  | x :: xs, [] => by simp [PyData.eqvAll]
  | x :: xs, y :: ys => by
    simp only [iL_cons, PyData.eqvAll, eqv_ii, eqvAll_iL xs ys, List.cons.injEq]
    by_cases h : x = y <;> simp [h]
theorem eqv_tt (xs ys : List Int) : PyData.eqv (.tuple (iL xs)) (.tuple (iL ys)) = decide (xs = ys) := by rw [PyData.eqv, eqvAll_iL]
theorem plain_iL : ∀ xs : List Int, PyData.plainAll (iL xs) = true
  | [] => rfl
  | x :: xs => by rw [iL_cons, PyData.plainAll, plain_iL xs]; rfl
theorem plain_tL (xs : List Int) : PyData.plain (.tuple (iL xs)) = true := by rw [PyData.plain]; exact plain_iL xs
theorem plainAll_map {α : Type} (f : α → D) : ∀ (xs : List α), (∀ a ∈ xs, (f a).plain = true) → PyData.plainAll (xs.map f) = true
  | [], _ => rfl
  | x :: xs, h => by rw [List.map_cons, PyData.plainAll, h x (by simp), plainAll_map f xs fun a ha => h a (List.mem_cons_of_mem _ ha)]; rfl
theorem eqD_iL (xs ys : List Int) : PI.eqD (.tuple (iL xs)) (.tuple (iL ys)) = .ok (.sh (.bool (decide (xs = ys)))) := by
  unfold PI.eqD
  rw [if_pos (eqOk_of (plain_tL xs) (plain_tL ys) (by rw [depth_t, depth_iL]; omega)), eqv_tt]
theorem neD_iL (xs ys : List Int) : PI.neD (.tuple (iL xs)) (.tuple (iL ys)) = .ok (.sh (.bool (!decide (xs = ys)))) := by
  unfold PI.neD
  rw [if_pos (eqOk_of (plain_tL xs) (plain_tL ys) (by rw [depth_t, depth_iL]; omega)), eqv_tt]
@[simp] theorem neD_t0 (xs : List D) : PI.neD (.tuple xs) (.tuple []) = .ok (.sh (.bool (!xs.isEmpty))) := by
  unfold PI.neD
  rw [if_pos (show eqOk (.tuple xs) (.tuple []) = true from rfl)]
  cases xs <;> simp [PyData.eqv, PyData.eqvAll]
@[simp] theorem eqD_t0 (xs : List D) : PI.eqD (.tuple xs) (.tuple []) = .ok (.sh (.bool xs.isEmpty)) := by
  unfold PI.eqD
  rw [if_pos (show eqOk (.tuple xs) (.tuple []) = true from rfl)]
  cases xs <;> simp [PyData.eqv, PyData.eqvAll]
theorem inD_map {α : Type} (f : α → D) (d : D) (xs : List α) (hd : ∀ a ∈ xs, (f a).depth ≤ 60 ∧ (f a).plain = true) (hp : d.plain = true) : PI.inD d (.tuple (xs.map f)) = .ok (.sh (.bool (xs.any fun a => PyData.eqv (f a) d))) := by
  have h : PyData.depthAll (xs.map f) ≤ 60 := depthAll_le fun x hx => by
    obtain ⟨k, hk, rfl⟩ := List.mem_map.mp hx
    exact (hd k hk).1
  simp only [PI.inD]
  rw [if_pos ⟨h, plainAll_map f xs fun a ha => (hd a ha).2, hp⟩, List.any_map]; rfl
theorem notInD_map {α : Type} (f : α → D) (d : D) (xs : List α) (hd : ∀ a ∈ xs, (f a).depth ≤ 60 ∧ (f a).plain = true) (hp : d.plain = true) : PI.notInD d (.tuple (xs.map f)) = .ok (.sh (.bool (!xs.any fun a => PyData.eqv (f a) d))) := by
  have h : PyData.depthAll (xs.map f) ≤ 60 := depthAll_le fun x hx => by
    obtain ⟨k, hk, rfl⟩ := List.mem_map.mp hx
    exact (hd k hk).1
  simp only [PI.notInD]
  rw [if_pos ⟨h, plainAll_map f xs fun a ha => (hd a ha).2, hp⟩, List.any_map]; rfl
theorem inD_nL (ks : List Nat) (p : Nat) : PI.inD (.int (p : Int)) (.tuple (nL ks)) = .ok (.sh (.bool (decide (p ∈ ks)))) := by
  unfold nL
  rw [inD_map _ _ _ (fun a _ => ⟨by rw [depth_i]; omega, rfl⟩) rfl]
  congr 3
  rw [Bool.eq_iff_iff, List.any_eq_true, decide_eq_true_iff]
  constructor
  · rintro ⟨k, hk, e⟩
    simp at e
    have : k = p := by omega
    exact this ▸ hk
  · intro h
    exact ⟨p, h, by simp⟩
end PI
set_option autoImplicit false
set_option Elab.async false
set_option linter.all false
set_option maxRecDepth 100000
set_option autoImplicit false
/-! Pi15: comprehensions with two for clauses. -/
namespace PI
open PySem PySem.Spec PyProof.Rows L2
open R (RD_bnd)
section
variable [Tables] {E' : XE} {S : Fm} {tg tg1 : FG} {ts ts1 : FT} {fi1 : FI} {el : FE} {own own1 : List Nat}
theorem turn_lc' {Hs H : Hp} {σ : St} {env : Env} {L0 : Addr} {acc : List D} {vacc : List V} {ds : List D} {o : List D × Env} {vt : List Nat} {x : V} {d : D} {Nx : Hp → Prop}
    (hvt : ∀ i ∈ vt, i ∈ own) (hF : S.Fr L0 = none) (ok : Ok (S.bar L0 (.lst vacc)) Hs H (wipe σ own) env) (hx : Dq Hs x d) (hacc : DqAll Hs vacc acc) (hsz : o.1.length ≤ sizeLine)
    (e : compL tg ts el own (d :: ds) env acc = .ok o)
    (nx : ∀ Hs' H' env' acc' vacc', Same Hs Hs' → Ok (S.bar L0 (.lst vacc')) Hs' H' (wipe σ own) env' → DqAll Hs' vacc' acc' → compL tg ts el own ds env' acc' = .ok o → Nx H') :
    gI vt tg x (wipe σ own) H fun σ2 H2 => wipe σ2 own = wipe σ own ∧ bI E' ts σ2 H2 fun b H3 => if b = true then tI E' el σ2 H3 fun y H4 => ∃ acc, H4 L0 = some (.lst acc) ∧ acc.length < sizeLine ∧ Nx (upd H4 L0 (.lst (acc ++ [y]))) else Nx H3 := by
  unfold compL at e
  obtain ⟨e1, h1, e⟩ := bnd_ok_inv e
  obtain ⟨t, h2, e⟩ := bnd_ok_inv e
  refine ⟨S.bar L0 (.lst vacc), Hs, env, d, e1, ok, hx, nox_ok_of h1, fun σ2 ok2 l2 f2 => ?_⟩
  have hw : wipe σ2 own = wipe σ own := (wipe_eq l2 fun j hj => f2 j fun z => hj (hvt j z)).trans (wipe_wipe own)
  refine ⟨hw, S.bar L0 (.lst vacc), Hs, e1, ok2, ?_⟩
  rw [h2]
  intro Hs3 H3 s3 o3
  obtain ⟨b, e2⟩ := t
  cases b with
  | false =>
    simp only [Bool.false_eq_true, if_false] at e ⊢
    exact nx Hs3 H3 _ acc vacc s3 (by rw [← hw]; exact o3.wiped own) (hacc.mono s3) e
  | true =>
    simp only [if_true] at e ⊢
    obtain ⟨r, h4, e⟩ := bnd_ok_inv e
    obtain ⟨y, h5, e⟩ := bnd_ok_inv e
    refine ⟨S.bar L0 (.lst vacc), Hs3, e2, o3, ?_⟩
    rw [h4]
    intro v Hs4 H4 s4 o4 r4
    obtain ⟨Hs5, s5, o5, d5⟩ := o4.fzd r4 h5
    have hD := (o5.unbar hF).2.1
    have hlen : vacc.length < sizeLine := by
      have := (compL_len _ _ _ e).1
      rw [List.length_append, ← hacc.length] at this
      simp only [List.length_cons, List.length_nil] at this
      omega
    refine ⟨vacc, hD, hlen, ?_⟩
    have s := (s3.trans s4).trans s5
    exact nx Hs5 _ _ (acc ++ [y.1]) (vacc ++ [v]) s (by rw [← hw]; exact (o5.rebar hF).wiped own) ((hacc.mono s).append (.one d5)) e
omit [Tables] in
theorem wipe_in {σ : St} (h : ∀ i ∈ own1, i ∈ own) : wipe (wipe σ own1) own = wipe σ own := wipe_eq (wipe_length σ own1) fun j hj => wipe_out fun z => hj (h j z)
/-- one turn of the outer clause -/
theorem turn_lc2 {Hs H : Hp} {σ : St} {env : Env} {L0 : Addr} {acc : List D} {vacc : List V} {ds : List D} {o : List D × Env} {vt vt1 : List Nat} {x : V} {d : D} {Nx : Hp → Prop}
    (hvt : ∀ i ∈ vt, i ∈ own) (hvt1 : ∀ i ∈ vt1, i ∈ own1) (hown : ∀ i ∈ own1, i ∈ own) (hF : S.Fr L0 = none) (ok : Ok (S.bar L0 (.lst vacc)) Hs H (wipe σ own) env) (hx : Dq Hs x d) (hacc : DqAll Hs vacc acc)
    (e : compL2 tg ts fi1 tg1 ts1 el own own1 (d :: ds) env acc = .ok o)
    (nx : ∀ Hs' H' env' acc' vacc', Same Hs Hs' → Ok (S.bar L0 (.lst vacc')) Hs' H' (wipe σ own) env' → DqAll Hs' vacc' acc' → compL2 tg ts fi1 tg1 ts1 el own own1 ds env' acc' = .ok o → Nx H') :
    gI vt tg x (wipe σ own) H fun σ2 H2 => wipe σ2 own = wipe σ own ∧ bI E' ts σ2 H2 fun b H3 =>
      if b = true then iI E' fi1 σ2 H3 fun J1 H4 => ∃ W1 : Nat → Nat → Hp → Prop, (∃ m, W1 0 m H4) ∧ ∀ j k H, W1 j k H →
        (J1.stop j H ∧ Nx H) ∨ (J1.go j H ∧ ∃ Nx1 : Hp → Prop, (∀ H', Nx1 H' → ∃ k', k' < k ∧ W1 (j + 1) k' H') ∧ ∀ x H', J1.yld j H x H' → gI vt1 tg1 x (wipe σ2 own1) H' fun σ3 H5 => wipe σ3 own1 = wipe σ2 own1 ∧ bI E' ts1 σ3 H5 fun b H6 =>
          if b = true then tI E' el σ3 H6 fun y H7 => ∃ acc, H7 L0 = some (.lst acc) ∧ acc.length < sizeLine ∧ Nx1 (upd H7 L0 (.lst (acc ++ [y]))) else Nx1 H6)
      else Nx H3 := by
  unfold compL2 at e
  obtain ⟨e1, h1, e⟩ := bnd_ok_inv e
  obtain ⟨t, h2, e⟩ := bnd_ok_inv e
  refine ⟨S.bar L0 (.lst vacc), Hs, env, d, e1, ok, hx, nox_ok_of h1, fun σ2 ok2 l2 f2 => ?_⟩
  have hw : wipe σ2 own = wipe σ own := (wipe_eq l2 fun j hj => f2 j fun z => hj (hvt j z)).trans (wipe_wipe own)
  refine ⟨hw, S.bar L0 (.lst vacc), Hs, e1, ok2, ?_⟩
  rw [h2]
  intro Hs3 H3 s3 o3
  obtain ⟨b, e2⟩ := t
  cases b with
  | false =>
    simp only [Bool.false_eq_true, if_false] at e ⊢
    exact nx Hs3 H3 _ acc vacc s3 (by rw [← hw]; exact o3.wiped own) (hacc.mono s3) e
  | true =>
    simp only [if_true] at e ⊢
    obtain ⟨z, h4, e⟩ := bnd_ok_inv e
    obtain ⟨o1, h5, e⟩ := bnd_ok_inv e
    have hcap : o1.1.length ≤ 16777216 := by
      by_cases h : o1.1.length ≤ 16777216
      · exact h
      · rw [if_neg h] at e; cases e
    rw [if_pos hcap] at e
    rw [← sizeL] at hcap
    refine ⟨S.bar L0 (.lst vacc), Hs3, e2, o3, ?_⟩
    rw [h4]
    intro J1 Hs4 H4 s4 o4 hlen src
    have ww : wipe (wipe σ2 own1) own = wipe σ own := (wipe_in hown).trans hw
    refine ⟨fun j k H' => k = z.1.length - j ∧ j ≤ z.1.length ∧ ∃ Hs' env' acc' vacc', Same Hs4 Hs' ∧ Ok (S.bar L0 (.lst vacc')) Hs' H' (wipe σ2 own1) env' ∧ DqAll Hs' vacc' acc' ∧ compL tg1 ts1 el own1 (z.1.drop j) env' acc' = .ok o1, ⟨z.1.length, by simp, Nat.zero_le _, Hs4, _, acc, vacc, Same.refl _, o4.wiped own1, (hacc.mono s3).mono s4, h5⟩, ?_⟩
    rintro j k H' ⟨rfl, hj, Hs', env', acc', vacc', s', ok', hacc', e'⟩
    by_cases hlt : j < z.1.length
    · have hd : z.1[j]? = some z.1[j] := List.getElem?_eq_getElem hlt
      rw [drop_cons hlt] at e'
      refine .inr ⟨((src j H' (s'.trans ok'.sub)).1 _ hd).1, fun H2 => z.1.length - (j + 1) = z.1.length - (j + 1) ∧ j + 1 ≤ z.1.length ∧ ∃ Hs' env' acc' vacc', Same Hs4 Hs' ∧ Ok (S.bar L0 (.lst vacc')) Hs' H2 (wipe σ2 own1) env' ∧ DqAll Hs' vacc' acc' ∧ compL tg1 ts1 el own1 (z.1.drop (j + 1)) env' acc' = .ok o1, fun H2 w => ⟨_, by omega, w⟩, fun x H2 y => ?_⟩
      obtain ⟨Hs2, s2, ok2, dx⟩ := src_step src s' ok' hd y
      exact turn_lc' hvt1 hF ok2 dx (hacc'.mono s2) hcap e' fun Hs3 H3 env3 acc3 vacc3 s3 ok3 h3 e3 => ⟨rfl, hlt, Hs3, env3, acc3, vacc3, (s'.trans s2).trans s3, ok3, h3, e3⟩
    · have hj' : j = z.1.length := by omega
      subst hj'
      rw [List.drop_length] at e'
      unfold compL at e'
      cases e'
      refine .inl ⟨(src _ H' (s'.trans ok'.sub)).2 (Nat.le_refl _), ?_⟩
      exact nx Hs' H' _ acc' vacc' ((s3.trans s4).trans s') (by rw [← ww]; exact ok'.wiped own) hacc' e
omit [Tables] in
theorem compL2_len (hc : True) : ∀ (ds : List D) (env : Env) (acc : List D) {o : List D × Env}, acc.length ≤ 16777216 → compL2 tg ts fi1 tg1 ts1 el own own1 ds env acc = .ok o → o.1.length ≤ 16777216
  | [], env, acc, o, h, e => by
    unfold compL2 at e; cases e; exact h
  | d :: ds, env, acc, o, h, e => by
    unfold compL2 at e
    obtain ⟨e1, h1, e⟩ := bnd_ok_inv e
    obtain ⟨t, h2, e⟩ := bnd_ok_inv e
    by_cases hb : t.1 = true
    · rw [if_pos hb] at e
      obtain ⟨z, h4, e⟩ := bnd_ok_inv e
      obtain ⟨o1, h5, e⟩ := bnd_ok_inv e
      by_cases h6 : o1.1.length ≤ 16777216
      · rw [if_pos h6] at e
        exact compL2_len hc ds _ _ h6 e
      · rw [if_neg h6] at e; cases e
    · rw [if_neg hb] at e
      exact compL2_len hc ds _ _ h e
end
section
variable [Tables] {X : Cx} {E E' : XE}
theorem lc2I {fi fi1 : FI} {tg tg1 : FG} {ts ts1 : FT} {el : FE} {own own1 vt vt1 : List Nat} (hvt : ∀ i ∈ vt, i ∈ own) (hvt1 : ∀ i ∈ vt1, i ∈ own1) (hown : ∀ i ∈ own1, i ∈ own) {σ : St} {H : Hp} {Q : VK} (h : tI E (fComp2 own own1 fi tg ts fi1 tg1 ts1 el) σ H Q) :
    tLc2 (iI E fi) (gI vt tg) (bI E' ts) (iI E' fi1) (gI vt1 tg1) (bI E' ts1) (tI E' el) own own1 σ H Q := by
  obtain ⟨S, Hs, env, ok, h⟩ := h
  refine iI.mono (bindI ok h) fun J H1 ⟨Hs1, z, s1, ok1, hlen, src, q⟩ => ?_
  obtain ⟨o, e, q⟩ := RD.inv (nox_nox _) q
  have e := nox_ok_of e
  intro D hD
  obtain ⟨f1, f2, f3, f4⟩ := ok1.free hD
  have hol : o.1.length ≤ sizeLine := by
    rw [sizeL]
    exact compL2_len trivial _ _ _ (Nat.zero_le _) e
  refine ⟨fun i m H' => m = z.1.length - i ∧ i ≤ z.1.length ∧ ∃ Hs' env' acc vacc, Same Hs1 Hs' ∧ Ok (S.bar D (.lst vacc)) Hs' H' (wipe σ own) env' ∧ DqAll Hs' vacc acc ∧ compL2 tg ts fi1 tg1 ts1 el own own1 (z.1.drop i) env' acc = .ok o, ⟨z.1.length, by simp, Nat.zero_le _, Hs1, _, [], [], Same.refl _, ?_, .nil, e⟩, ?_⟩
  · exact Ok.bar ((ok1.alloc hD).wiped own) upd_same f1 f2 f3 (fun j k c e z => by
      have w := (ok1.wiped own).slot j _ e
      obtain ⟨p, e1, hO⟩ := w
      rw [z] at e1; cases e1
      obtain ⟨_, ho, _⟩ := hO.2.2.1
      rw [hD] at ho; cases ho)
  · rintro i m H' ⟨rfl, hi, Hs', env', acc, vacc, s', ok', hacc, e'⟩
    by_cases hlt : i < z.1.length
    · have hd : z.1[i]? = some z.1[i] := List.getElem?_eq_getElem hlt
      rw [drop_cons hlt] at e'
      refine .inr ⟨((src i H' (s'.trans ok'.sub)).1 _ hd).1, fun H2 => z.1.length - (i + 1) = z.1.length - (i + 1) ∧ i + 1 ≤ z.1.length ∧ ∃ Hs' env' acc vacc, Same Hs1 Hs' ∧ Ok (S.bar D (.lst vacc)) Hs' H2 (wipe σ own) env' ∧ DqAll Hs' vacc acc ∧ compL2 tg ts fi1 tg1 ts1 el own own1 (z.1.drop (i + 1)) env' acc = .ok o, fun H2 w => ⟨_, by omega, w⟩, fun x H2 y => ?_⟩
      obtain ⟨Hs2, s2, ok2, dx⟩ := src_step src s' ok' hd y
      exact turn_lc2 hvt hvt1 hown f2 ok2 dx (hacc.mono s2) e' fun Hs3 H3 env3 acc3 vacc3 s3 ok3 h3 e3 => ⟨rfl, hlt, Hs3, env3, acc3, vacc3, (s'.trans s2).trans s3, ok3, h3, e3⟩
    · have hi' : i = z.1.length := by omega
      subst hi'
      rw [List.drop_length] at e'
      unfold compL2 at e'
      cases e'
      refine .inl ⟨(src _ H' (s'.trans ok'.sub)).2 (Nat.le_refl _), ?_⟩
      obtain ⟨ok2, g1, g2, g3, g4⟩ := ok'.unbar f2
      obtain ⟨ok3, ns⟩ := ok1.backed s' ok2
      have hv : vacc.length ≤ sizeLine := by rw [hacc.length]; exact hol
      exact q (.ref D) Hs' H' (s1.trans s') ok3 ⟨D, rfl, ⟨g2, f2, ⟨_, g1, vacc, rfl, hv, hacc⟩, fun _ => g3, fun z => nomatch z⟩, ns D g4⟩
theorem ge_lc2 {elt tg iter tg1 iter1 : Expr} {ifs ifs1 : List Expr} {scope : Scope} {own : List (Str × Nat)} {own1 : List Nat} {pos : Pos} {fi fi1 : FI} {ftg ftg1 : FG} {ts ts1 : FT} {el : FE} {vt vt1 : List Nat} (hc : X.calm = true) (hN : X.N.Nodup) (hi : GI X E tg iter fi) (ok : BlkOk X.N X.env.scope scope own) (hvt : ∀ i ∈ vt, i ∈ own.map (·.2)) (hvt1 : ∀ i ∈ vt1, i ∈ own1) (hown : ∀ i ∈ own1, i ∈ own.map (·.2))
    (hg : ∀ (s : Shared) (H : Hp) (C : Addr) (cl : List (Str × Addr)) (fp : List Addr), GG (X.blk s H scope (compEnvC scope cl C X.env) fp) tg vt ftg) (ht : ∀ (s : Shared) (H : Hp) (C : Addr) (cl : List (Str × Addr)) (fp : List Addr), GTs (X.blk s H scope (compEnvC scope cl C X.env) fp) E' ifs ts)
    (hi1 : ∀ (s : Shared) (H : Hp) (C : Addr) (cl : List (Str × Addr)) (fp : List Addr), GI (X.blk s H scope (compEnvC scope cl C X.env) fp) E' tg1 iter1 fi1)
    (hg1 : ∀ (s : Shared) (H : Hp) (C : Addr) (cl : List (Str × Addr)) (fp : List Addr), GG (X.blk s H scope (compEnvC scope cl C X.env) fp) tg1 vt1 ftg1) (ht1 : ∀ (s : Shared) (H : Hp) (C : Addr) (cl : List (Str × Addr)) (fp : List Addr), GTs (X.blk s H scope (compEnvC scope cl C X.env) fp) E' ifs1 ts1)
    (he : ∀ (s : Shared) (H : Hp) (C : Addr) (cl : List (Str × Addr)) (fp : List Addr), GE (X.blk s H scope (compEnvC scope cl C X.env) fp) E' elt el) (hs : ∀ x, foldedSetIterable iter X.env x = pure x := by intro _; rfl) (hs1 : ∀ env x, foldedSetIterable iter1 env x = pure x := by intro _ _; rfl) :
    GE X E (.ListComp elt [⟨tg, iter, ifs, 0⟩, ⟨tg1, iter1, ifs1, 0⟩] scope pos) (fComp2 (own.map (·.2)) own1 fi ftg ts fi1 ftg1 ts1 el) :=
  PE.imp (pe_lc2 hc hN hi ok hown hg ht hi1 hg1 ht1 he hs hs1) fun σ H Q h => lc2I hvt hvt1 hown h
theorem gs_setLc2 (i : Nat) {y : Str} {py : Pos} {elt tg iter tg1 iter1 : Expr} {ifs ifs1 : List Expr} {scope : Scope} {own : List (Str × Nat)} {own1 : List Nat} {pos spos : Pos} {fi fi1 : FI} {ftg ftg1 : FG} {ts ts1 : FT} {el : FE} {vt vt1 : List Nat} (hc : X.calm = true) (hN : X.N.Nodup) (hy : X.N[i]? = some y) (hyl : X.env.scope.names.lookup y = some .local)
    (hsw : swapsWith (.ListComp elt [⟨tg, iter, ifs, 0⟩, ⟨tg1, iter1, ifs1, 0⟩] scope pos) (some (.Name y py)) spos.line X.env = pure true) (hi : GI X E tg iter fi) (ok : BlkOk X.N X.env.scope scope own) (hvt : ∀ i ∈ vt, i ∈ own.map (·.2)) (hvt1 : ∀ i ∈ vt1, i ∈ own1) (hown : ∀ i ∈ own1, i ∈ own.map (·.2))
    (hg : ∀ (s : Shared) (H : Hp) (C : Addr) (cl : List (Str × Addr)) (fp : List Addr), GG (X.blk s H scope (compEnvC scope cl C X.env) fp) tg vt ftg) (ht : ∀ (s : Shared) (H : Hp) (C : Addr) (cl : List (Str × Addr)) (fp : List Addr), GTs (X.blk s H scope (compEnvC scope cl C X.env) fp) E' ifs ts)
    (hi1 : ∀ (s : Shared) (H : Hp) (C : Addr) (cl : List (Str × Addr)) (fp : List Addr), GI (X.blk s H scope (compEnvC scope cl C X.env) fp) E' tg1 iter1 fi1)
    (hg1 : ∀ (s : Shared) (H : Hp) (C : Addr) (cl : List (Str × Addr)) (fp : List Addr), GG (X.blk s H scope (compEnvC scope cl C X.env) fp) tg1 vt1 ftg1) (ht1 : ∀ (s : Shared) (H : Hp) (C : Addr) (cl : List (Str × Addr)) (fp : List Addr), GTs (X.blk s H scope (compEnvC scope cl C X.env) fp) E' ifs1 ts1)
    (he : ∀ (s : Shared) (H : Hp) (C : Addr) (cl : List (Str × Addr)) (fp : List Addr), GE (X.blk s H scope (compEnvC scope cl C X.env) fp) E' elt el) (hs : ∀ x, foldedSetIterable iter X.env x = pure x := by intro _; rfl) (hs1 : ∀ env x, foldedSetIterable iter1 env x = pure x := by intro _ _; rfl) :
    GS X E (.Assign [.Name y py] (.ListComp elt [⟨tg, iter, ifs, 0⟩, ⟨tg1, iter1, ifs1, 0⟩] scope pos) spos) (sSetC i (fComp2 (own.map (·.2)) own1 fi ftg ts fi1 ftg1 ts1 el)) := by
  refine PS.imp (ps_setLc2 hc hN hy hyl hsw hi ok hown hg ht hi1 hg1 ht1 he hs hs1) fun De σ H h => ?_
  obtain ⟨S, Hs, env, ok, h⟩ := h
  refine lc2I hvt hvt1 hown (tI.mono (bindE ok h) fun v H1 ⟨Hs1, x, s1, o1, r1, q⟩ => ?_)
  obtain ⟨e, h1, q⟩ := RD.inv (fun _ => stow_nox _) q
  obtain ⟨Hs2, s2, o2⟩ := o1.stowed r1 h1
  exact q _ Hs2 H1 (s1.trans s2) o2
end
/-! ### by simp -/
@[simp ↓] theorem v_comp2 (own own1 : List Nat) (fi : FI) (tg : FG) (ts : FT) (fi1 : FI) (tg1 : FG) (ts1 : FT) (el : FE) (env : PI.Env) : fComp2 own own1 fi tg ts fi1 tg1 ts1 el env =
  (fi env).bnd fun z => (compL2 tg ts fi1 tg1 ts1 el own own1 z.1 (wipeE z.2 own) []).nox.bnd fun o => .ok (.fr (.lst o.1), backE z.2 o.2 own) := rfl
/-- one turn of the outer clause -/
def cs2 (tg : FG) (ts : FT) (fi1 : FI) (tg1 : FG) (ts1 : FT) (el : FE) (own own1 : List Nat) (x : D) (env : PI.Env) : R (List D × PI.Env) :=
  (tg x env).nox.bnd fun e1 => (ts e1).bnd fun t => if t.1 then (fi1 t.2).bnd fun z => (compL tg1 ts1 el own1 z.1 (wipeE z.2 own1) []).bnd fun o => .ok (o.1, wipeE o.2 own) else .ok ([], wipeE t.2 own)
theorem compL_acc {tg : FG} {ts : FT} {el : FE} {own : List Nat} : ∀ (xs : List D) (env : PI.Env) (acc : List D) {o : List D × PI.Env}, compL tg ts el own xs env [] = .ok o → compL tg ts el own xs env acc = .ok (acc ++ o.1, o.2) := by
  suffices h : ∀ (xs : List D) (env : PI.Env) (acc pre : List D) {o : List D × PI.Env}, compL tg ts el own xs env acc = .ok o → compL tg ts el own xs env (pre ++ acc) = .ok (pre ++ o.1, o.2) from fun xs env acc o e => by
    have := h xs env [] acc e
    rwa [List.append_nil] at this
  intro xs
  induction xs with
  | nil =>
    intro env acc pre o e
    unfold compL at e ⊢
    cases e; rfl
  | cons x xs ih =>
    intro env acc pre o e
    rw [compL_cs] at e ⊢
    obtain ⟨y, h1, e⟩ := bnd_ok_inv e
    rw [h1, R.bnd_ok, List.append_assoc]
    exact ih _ _ _ e
theorem compL2_map {tg : FG} {ts : FT} {fi1 : FI} {tg1 : FG} {ts1 : FT} {el : FE} {own own1 : List Nat} {env : PI.Env} {α : Type} (c : α → D) (f : α → List D) : ∀ (xs : List α) (acc : List D) (h : ∀ a ∈ xs, cs2 tg ts fi1 tg1 ts1 el own own1 (c a) env = .ok (f a, env)) (hl : (acc ++ (xs.map f).flatten).length ≤ 16777216),
    compL2 tg ts fi1 tg1 ts1 el own own1 (xs.map c) env acc = .ok (acc ++ (xs.map f).flatten, env)
  | [], acc, _, _ => by simp [compL2]
  | x :: xs, acc, h, hl => by
    have h0 := h x (by simp)
    have ih := compL2_map c f xs (acc ++ f x) (fun a ha => h a (List.mem_cons_of_mem _ ha)) (by simpa using hl)
    unfold cs2 at h0
    obtain ⟨e1, q1, h0⟩ := bnd_ok_inv h0
    obtain ⟨t, q2, h0⟩ := bnd_ok_inv h0
    rw [List.map_cons, compL2, q1, R.bnd_ok, q2, R.bnd_ok]
    cases hb : t.1 with
    | false =>
      simp only [hb, Bool.false_eq_true, if_false] at h0 ⊢
      obtain ⟨a, b⟩ := Prod.mk.inj (R.ok.inj h0)
      rw [b]
      rw [← a, List.append_nil] at ih
      rw [ih, List.map_cons, List.flatten_cons, ← a]; rfl
    | true =>
      simp only [hb, if_true] at h0 ⊢
      obtain ⟨z, q3, h0⟩ := bnd_ok_inv h0
      obtain ⟨o, q4, h0⟩ := bnd_ok_inv h0
      obtain ⟨a, b⟩ := Prod.mk.inj (R.ok.inj h0)
      rw [q3, R.bnd_ok, compL_acc _ _ acc q4, R.bnd_ok, a]
      simp only
      rw [if_pos (by
        simp only [List.map_cons, List.flatten_cons, List.length_append] at hl ⊢
        omega), b, ih, List.map_cons, List.flatten_cons, List.append_assoc]
theorem compL2_mapD {tg : FG} {ts : FT} {fi1 : FI} {tg1 : FG} {ts1 : FT} {el : FE} {own own1 : List Nat} {env : PI.Env} (f : D → List D) (xs : List D) (h : ∀ a ∈ xs, cs2 tg ts fi1 tg1 ts1 el own own1 a env = .ok (f a, env)) (hl : (xs.map f).flatten.length ≤ 16777216) :
    compL2 tg ts fi1 tg1 ts1 el own own1 xs env [] = .ok ((xs.map f).flatten, env) := by
  have := compL2_map id f xs [] h (by simpa using hl)
  rwa [List.map_id, List.nil_append] at this
end PI
set_option autoImplicit false
set_option Elab.async false
set_option linter.all false
set_option maxRecDepth 100000
set_option autoImplicit false
/-! Pi16: x[::-1] of lists and tuples; sorted(ints). -/
namespace PI
open PySem PySem.Spec PyProof.Rows L2
open R (RD_bnd)
section
variable {prog : Program} {w : World} {A : Around} {E : Value → Shared → Prop} {s : Shared}
theorem places_down (n : Nat) : Builtin.Slice.slicePlaces ((n : Int) - 1) (-1) (-1) = n := by
  simp only [Builtin.Slice.slicePlaces]
  rw [if_neg (by omega)]
  by_cases h : (n : Int) - 1 > -1
  · rw [if_pos h, show -(-1 : Int) = 1 by omega, Int.ediv_one]; omega
  · rw [if_neg h]; omega
theorem pick_down (xs : Array Value) : ((List.range xs.size).filterMap fun (m : Nat) => xs[(((xs.size : Int) - 1) + (m : Int) * (-1)).toNat]?).toArray = xs.toList.reverse.toArray := by
  congr 1
  have h : ∀ m ∈ List.range xs.size, xs[(((xs.size : Int) - 1) + (m : Int) * (-1)).toNat]? = xs.toList.reverse[m]? := fun m hm => by
    have hm := List.mem_range.mp hm
    rw [show (((xs.size : Int) - 1) + (m : Int) * (-1)).toNat = xs.size - 1 - m by omega, List.getElem?_reverse (by simpa using hm), Array.length_toList, Array.getElem?_toList]
  have hc : ∀ (l : List Nat), (∀ m ∈ l, xs[(((xs.size : Int) - 1) + (m : Int) * (-1)).toNat]? = xs.toList.reverse[m]?) → l.filterMap (fun (m : Nat) => xs[(((xs.size : Int) - 1) + (m : Int) * (-1)).toNat]?) = l.filterMap (fun m => xs.toList.reverse[m]?) := fun l => by
    induction l with
    | nil => intro _; rfl
    | cons a l ih =>
      intro g
      rw [List.filterMap_cons, List.filterMap_cons, g a (by simp), ih fun m hm => g m (List.mem_cons_of_mem _ hm)]
  rw [hc _ h]
  have : xs.size = xs.toList.reverse.length := by simp
  rw [this]
  generalize xs.toList.reverse = l
  clear h this hc
  induction l with
  | nil => rfl
  | cons x l ih =>
    rw [List.length_cons, List.range_succ_eq_map, List.filterMap_cons]
    simp only [List.getElem?_cons_zero, List.filterMap_map]
    congr 1
theorem applied_down {sl : Addr} {vs : Value} {n : Nat} {Q : Int × Int × Nat → Shared → Prop} (hs : s.heap.IsSliceOf sl .none .none vs) (ps : IsPart vs (some (-1)))
    (h : Q ((n : Int) - 1, -1, n) s) : wpAny (model prog w) A (Builtin.Slice.sliceApplied (.ref sl) (pure (n : Int))) Q E s := by
  obtain ⟨os, g1, g2, g3⟩ := id hs
  simp only [Builtin.Slice.sliceApplied, Builtin.Slice.sliceFields]
  refine wpAny_bind (wpAny_bind (wpAny_field g1 g3 (x := Value.none) rfl (wpAny_bind (wpAny_field g1 g3 (x := Value.none) rfl (wpAny_bind (wpAny_field g1 g3 (x := vs) rfl (wpAny_pure ?_)))))))
  refine wpAny_bind (HT.slicePart_ ps ?_)
  show wpAny _ _ (if ((-1 : Int) == 0) = true then _ else _) _ _ s
  rw [if_neg (by decide)]
  refine wpAny_bind (HT.slicePart_ .none (wpAny_bind (HT.slicePart_ .none (wpAny_bind (wpAny_pure (wpAny_pure ?_))))))
  have := places_down n
  show Q ((n : Int) - 1, -1, Builtin.Slice.slicePlaces ((n : Int) - 1) (-1) (-1)) s
  rw [this]; exact h
theorem item_down {t sl : Addr} {items : Array Value} {vs : Value} {Q : Value → Shared → Prop} (ht : IsTup s.heap t items) (hs : s.heap.IsSliceOf sl .none .none vs) (ps : IsPart vs (some (-1)))
    (h : Q (.ref s.heap.objs.size) { s with heap := s.heap.push { cls := .type "tuple", data := .seq items.toList.reverse.toArray } })
    (hsz : items.size ≤ sizeLine) : wpAny (model prog w) A (getItem (.ref t) (.ref sl)) Q E s := by
  have hz : sizeOk (.seq items.toList.reverse.toArray) := by
    show items.toList.reverse.toArray.size ≤ sizeLine
    simpa using hsz
  obtain ⟨os, g1, g2, g3⟩ := id hs
  have hT : s.TypeIs (.ref sl) "slice" := ⟨os, g1, g2⟩
  unfold getItem
  (try with_reducible refine wpAny_holding ?_); (first | refine wpAny_bind (wpAny_pure ?_) | skip)
  refine wpAny_bind (wpAny_sequenceKey ht.typeIs (by decide) (wpAny_bind (wpAny_callSpecial?_slot (name := Str.ofString "__getitem__") ht.typeIs PyProof.Rows.slot_tuple_getitem
    (wpAny_call_entry PyProof.Rows.slot_tuple_getitem ht.typeIs entry_tuple_getitem ?body (args_tuple_getitem _ _)))))
  show wpAny _ _ (Builtin.Tuple.tupleItemsOf (.ref t) >>= fun _ => _) _ _ s
  refine wpAny_bind (tupleItemsOf_ ht (wpAny_bind (wpAny_typeOf hT ?_)))
  rw [if_pos (by decide)]; refine wpAny_bind (applied_down hs ps ?_)
  have hno : ¬ ((((items.size : Int) - 1) == 0 && (-1 : Int) == 1 && items.size == items.size) = true) := by simp
  show wpAny _ _ (if ((((items.size : Int) - 1) == 0 && (-1 : Int) == 1 && items.size == items.size) = true) then _ else _) _ _ s
  rw [if_neg hno, pick_down]
  first
    | exact wpAny_bind (m := Builtin.Tuple.tupleExact _) (wpAny_newObj_type (wpAny_pure ⟨_, rfl, wpAny_pure h⟩) hz)
    | exact wpAny_bind (m := Builtin.Tuple.tupleExact _) (wpAny_newObj_type (wpAny_bind (wpAny_pure (wpAny_pure ⟨_, rfl, wpAny_pure h⟩))) hz)
    | exact wpAny_bind (wpAny_bind (m := Builtin.Tuple.tupleExact _) (wpAny_newObj_type (wpAny_pure (wpAny_pure ⟨_, rfl, wpAny_pure h⟩)) hz))
    | exact wpAny_bind (wpAny_bind (m := Builtin.Tuple.tupleExact _) (wpAny_newObj_type (wpAny_pure ⟨_, rfl, wpAny_pure h⟩) hz))
end
/-! ### x[::-1] -/
def tRevA (K : PySem.W.Frag) (te : TE) : TE := fun σ H Q => te σ H fun x H1 => ∃ a xs, x = .ref a ∧ ((SqL K H1 a xs ∧ ∀ p, H1 p = none → Q (.ref p) (upd H1 p (.lst xs.reverse))) ∨ (SqT K H1 a xs ∧ ∀ p, H1 p = none → Q (.ref p) (upd H1 p (.tup xs.reverse))))
section
variable [Tables] {X : Cx} {E : XE}
omit [Tables] in
theorem pe_revA {e : Expr} {te : TE} {k : Nat} {p1 p2 p3 pos : Pos} (he : PE X e te) : PE X (.Subscript e (.Slice none none (some (.UnaryOp .USub (.Constant (.int 1) k p1) p2)) p3) pos) (tRevA X.K te) := by
  refine ⟨fun pins s σ H Q I h => Subscript_ (thn (he.run pins s σ H _ I h) fun v s1 ⟨x, H1, I1, r1, a, xs, ex, hx⟩ => ?_)⟩
  subst ex
  have step : L2.PO X (some (.UnaryOp .USub (.Constant (.int 1) k p1) p2)) (tPart (tUn (rU fun i => .int (-i)) (tC (.int 1)))) := po_some (pe_un un_neg pe_int)
  refine wpAny_Slice (thn (po_none.run pins s1 σ H1 (fun o H2 => o = none ∧ H2 = H1) I1 ⟨rfl, rfl⟩) fun vl s2 ⟨l, H2, I2, pl, el, e2⟩ => ?_)
  subst el; subst e2
  refine thn (po_none.run pins s2 σ H2 (fun o H3 => o = none ∧ H3 = H2) I2 ⟨rfl, rfl⟩) fun vu s3 ⟨u, H3, I3, pu, eu, e3⟩ => ?_
  subst eu; subst e3
  refine thn (step.run pins s3 σ H3 (fun o H4 => o = some (-1) ∧ H4 = H3) I3 ⟨1, rfl, -1, rfl, rfl, rfl⟩) fun vs s4 ⟨o, H4, I4, ps, eo, e4⟩ => ?_
  subst eo; subst e4
  have I5 : Inv X pins σ H4 { s4 with heap := s4.heap.push { cls := .type "slice", data := .fields #[vl, vu, vs] } } := I4.kept (t' := s4.toks) fun b ob q => Heap.get?_push_of_some _ q
  rcases hx with ⟨hx, q⟩ | ⟨hx, q⟩
  · cases r1
    obtain ⟨its, r, ht, hz⟩ := I5.list hx
    have hlen := r.length
    refine tail_any (ops := [.ref a, .ref s4.heap.objs.size]) ht.isList.typeIs (PySem.slot_list_getitem.lookup) (wpAny_getItem_list_slice ht.isList (Heap.IsSliceOf.new _ vl vu vs) pl pu ps (by decide) ?_ (by rw [List.size_toArray]; omega)) (by with_unfolding_all rfl)
    rw [PySem.W.krv_pick]
    exact ⟨.ref _, _, I5.laid (t' := s4.toks) (o := .lst xs.reverse) (fun b ob q => Heap.get?_push_of_some _ q) (Nat.le_refl _) ⟨by rw [List.length_reverse]; exact hz, _, 0, r.reverse, Heap.get?_push_size _ rfl⟩, rfl, q _ (I5.hok.fresh (Nat.le_refl _))⟩
  · cases r1
    cases pl
    cases pu
    obtain ⟨its, r, ht, hz⟩ := I5.tuple hx
    have hlen := r.length
    refine tail_any (ops := [.ref a, .ref s4.heap.objs.size]) ht.typeIs (PyProof.Rows.slot_tuple_getitem.lookup) (item_down ht (Heap.IsSliceOf.new _ Value.none Value.none vs) ps ?_ (by rw [List.size_toArray]; omega)) (by with_unfolding_all rfl)
    refine ⟨.ref _, _, I5.laid (t' := s4.toks) (o := .tup xs.reverse) (fun b ob q => Heap.get?_push_of_some _ q) (Nat.le_refl _) ?_, rfl, q _ (I5.hok.fresh (Nat.le_refl _))⟩
    exact ⟨by rw [List.length_reverse]; exact hz, _, r.reverse, IsTup.new _ _⟩
def revD : D → R RV
  | .list ds => .ok (.fr (.lst ds.reverse))
  | .tuple ds => .ok (.sh (.tuple ds.reverse))
  | _ => .bad
omit [Tables] in
omit [Tables] in
omit [Tables] in
omit [Tables] in
omit [Tables] in
omit [Tables] in
omit [Tables] in
omit [Tables] in
omit [Tables] in
omit [Tables] in
omit [Tables] in
omit [Tables] in
omit [Tables] in
omit [Tables] in
omit [Tables] in
@[simp] theorem revD_l (ds : List D) : revD (.list ds) = .ok (.fr (.lst ds.reverse)) := rfl
@[simp] theorem revD_t (ds : List D) : revD (.tuple ds) = .ok (.sh (.tuple ds.reverse)) := rfl
theorem DqAll.rev {H : Hp} : ∀ {vs : List V} {ds : List D}, DqAll H vs ds → DqAll H vs.reverse ds.reverse
  | _, _, .nil => .nil
  | _, _, .cons h r => by
    rw [List.reverse_cons, List.reverse_cons]
    exact (DqAll.rev r).append (.one h)
theorem ge_rev {e : Expr} {fa : FE} {k : Nat} {p1 p2 p3 pos : Pos} (he : GE X E e fa) : GE X E (.Subscript e (.Slice none none (some (.UnaryOp .USub (.Constant (.int 1) k p1) p2)) p3) pos) (fUn revD fa) := by
  refine PE.imp (pe_revA he) fun σ H Q ⟨S, Hs, env, ok, h⟩ => ?_
  refine tI.mono (bindH ok h) fun v H1 ⟨Hs1, x, s, o, r, q⟩ => ?_
  obtain ⟨d, e, q⟩ := RD.inv (rd_nox _ _) q
  obtain ⟨r2, e2, q⟩ := RD.inv (nox_nox _) q
  have t := o.rd r e
  have e2 := nox_ok_of e2
  unfold revD at e2
  split at e2
  · cases e2
    obtain ⟨p, xs, ev, h1, h2, h3⟩ := t.list o.sub
    exact ⟨p, xs, ev, .inl ⟨SqL.of h1, fun l hl => PV.lst o (PV.from s q) h3.rev (by rw [List.length_reverse]; exact h2) hl⟩⟩
  · cases e2
    obtain ⟨p, xs, ev, h1, h2, h3⟩ := t.tuple
    exact ⟨p, xs, ev, .inr ⟨SqT.of (o.sub _ _ h1), fun l hl => PV.tup o (PV.from s q) h3.rev (by rw [List.length_reverse]; exact h2) hl⟩⟩
  · cases e2
/-! ### sorted(ints) -/
def insI (x : Int) : List Int → List Int
  | [] => [x]
  | y :: ys => if x ≤ y then x :: y :: ys else y :: insI x ys
def sortI : List Int → List Int
  | [] => []
  | x :: xs => insI x (sortI xs)
omit [Tables] in
theorem insI_perm (x : Int) : ∀ ys, (insI x ys).Perm (x :: ys)
  | [] => List.Perm.refl _
  | y :: ys => by
    unfold insI
    split
    · exact List.Perm.refl _
    · exact ((insI_perm x ys).cons y).trans (List.Perm.swap x y ys)
omit [Tables] in
theorem insI_ord (x : Int) : ∀ ys, ys.Pairwise (· ≤ ·) → (insI x ys).Pairwise (· ≤ ·)
  | [], _ => by simp [insI]
  | y :: ys, h => by
    unfold insI
    have hp := List.pairwise_cons.mp h
    split
    · rename_i hxy
      refine List.pairwise_cons.mpr ⟨fun z hz => ?_, h⟩
      rcases List.mem_cons.mp hz with rfl | hz
      · exact hxy
      · exact Int.le_trans hxy (hp.1 z hz)
    · rename_i hxy
      refine List.pairwise_cons.mpr ⟨fun z hz => ?_, insI_ord x ys hp.2⟩
      rcases List.mem_cons.mp ((insI_perm x ys).mem_iff.mp hz) with rfl | hz
      · omega
      · exact hp.1 z hz
omit [Tables] in
theorem sortI_perm : ∀ xs, (sortI xs).Perm xs
  | [] => List.Perm.refl _
  | x :: xs => (insI_perm x _).trans ((sortI_perm xs).cons x)
omit [Tables] in
theorem sortI_ord : ∀ xs, (sortI xs).Pairwise (· ≤ ·)
  | [] => List.Pairwise.nil
  | x :: xs => insI_ord x _ (sortI_ord xs)
omit [Tables] in
theorem ord_uniq : ∀ {xs ys : List Int}, xs.Perm ys → xs.Pairwise (· ≤ ·) → ys.Pairwise (· ≤ ·) → xs = ys
  | [], ys, h, _, _ => (List.Perm.nil_eq h)
  | x :: xs, [], h, _, _ => absurd h.length_eq (by simp)
  | x :: xs, y :: ys, h, h1, h2 => by
    have a := List.pairwise_cons.mp h1
    have b := List.pairwise_cons.mp h2
    have e : x = y := by
      have m1 : x ∈ y :: ys := h.mem_iff.mp List.mem_cons_self
      have m2 : y ∈ x :: xs := h.mem_iff.mpr List.mem_cons_self
      rcases List.mem_cons.mp m1 with e | m1
      · exact e
      · rcases List.mem_cons.mp m2 with e | m2
        · exact e.symm
        · have := a.1 y m2; have := b.1 x m1; omega
    subst e
    rw [ord_uniq (List.Perm.cons_inv h) a.2 b.2]
def sortD : List D → R RV
  | [.list ds] => match intsOf ds with
    | some ns => .ok (.fr (.lst (iL (sortI ns))))
    | none => .bad
  | _ => .bad
omit [Tables] in
theorem sortD_iL (ns : List Int) : sortD [.list (iL ns)] = .ok (.fr (.lst (iL (sortI ns)))) := by simp only [sortD, intsOf_iL]
theorem cr_sortD : CallR X (.builtin "sorted") (rL sortD) := by
  rintro pins s σ H xs us Q I r ⟨S, Hs, σ', env, ds, rr, ok, t, e, q⟩
  unfold sortD at e
  split at e
  · rename_i ds
    split at e
    · rename_i ns hn
      cases e
      obtain ⟨x, rfl, t1⟩ := t.one
      obtain ⟨p, ys, rfl, h1, h2, h3⟩ := t1.list ok.sub
      have hy : ys = ns.map V.int := by
        rw [intsOf_map hn] at h3
        exact h3.ints_of
      subst hy
      refine cr_sortedI pins s σ H _ us Q I r ⟨p, ns, rfl, SqL.of h1, fun ns' l hp ho hl => ?_⟩
      obtain rfl := ord_uniq (hp.trans (sortI_perm ns).symm) ho (sortI_ord ns)
      exact PV.lst ok q (DqAll.ints) (by rw [List.length_map] at h2 ⊢; rw [(sortI_perm ns).length_eq]; exact h2) hl
    · cases e
  · cases e
end
end PI
set_option autoImplicit false
set_option Elab.async false
set_option linter.all false
set_option maxRecDepth 100000
set_option autoImplicit false
/-! Pi17: len(set(ints)), sorted(set(ints)). -/
namespace PI
open PySem PySem.Spec PyProof.Rows L2
open R (RD_bnd)
/-- the empty set's object -/
abbrev setOb (w : World) : Obj := { cls := .type "set", dict := none, data := .set #[] 0 (.fresh 0 0 (!w.params.followText "set-order")) }
section
variable {P : Program} {w : World} {A : Around} {E : Value → Shared → Prop} {s : Shared}
set_option maxHeartbeats 3200000 in
/-- set(l), l a list of ints -/
theorem set_of_list {l : Addr} {items : Array Value} (ns : List Int) {Q : Value → Shared → Prop} (hh : A.handled = none) (hl : s.heap.IsList l items) (hit : IntsAre items.toList ns) (hb : ns.length + 1 < scanBound)
    (h : ∀ (h' : Heap) (tk c : Nat), SetR w h' s.heap.objs.size (fun j => decide (j ∈ ns)) c → c ≤ ns.length → (∀ b o, s.heap.get? b = some o → h'.get? b = some o) → Q (.ref s.heap.objs.size) { s with heap := h', toks := tk }) : wpAny (model P w) A (call (.type "set") [.ref l]) Q E s := by
  have hsz : items.size = ns.length := by rw [← IntsAre.length hit, Array.length_toList]
  obtain ⟨⟨c, tl, hmro⟩, hmade, hsub⟩ := And.intro F.called_set.mro (And.intro F.called_set.made F.called_set.sub)
  refine wpAny_call (codeAny_of_tree (show wpAny _ _ (callAny (.type "set") _) _ _ _ from wpAny_pure ⟨Code.quiet_builtin _ (by decide +kernel), codeAny_builtin F.entry_type_call ?_⟩))
  rw [Around.under_plain (weight_type_call_type "set" [.ref l] []) rfl]
  have t1 := F.called_set.notType; have t2 := F.called_set.canCreate; have t3 := F.typeCall_set_1 (.ref l)
  (repeat (any_goals (first | assumption | wp_step)))
  refine codeAny_mono (code_set_led1 (.ref l) (E := E) (Q₁ := fun ob z => ob = .ref s.heap.objs.size ∧ z = { s with heap := s.heap.push (setOb w) }) ⟨rfl, rfl⟩) fun r s₁ hr => ?_
  rcases r with e | fl
  · exact hr
  · cases fl with
    | ret ob =>
      obtain ⟨rfl, rfl⟩ := hr
      have g0 : (s.heap.push (setOb w)).get? s.heap.objs.size = some (setOb w) := Heap.get?_push_size _ rfl
      have gT : Shared.TypeIs { s with heap := s.heap.push (setOb w) } (.ref s.heap.objs.size) "set" := ⟨_, g0, rfl⟩
      have i1 := F.called_set.init.lookup; have i2 := F.called_set.init.bind (.ref s.heap.objs.size)
      (repeat (any_goals (first | assumption | wp_step)))
      refine codeAny_mono (codeAny_call_builtin (R := wants (fun r z => r = .none ∧ ∃ h' tk c, z = { s with heap := h', toks := tk } ∧ SetR w h' s.heap.objs.size (fun j => decide (j ∈ ns)) c ∧ c ≤ ns.length ∧ (∀ b o, s.heap.get? b = some o → h'.get? b = some o)) E)
        F.called_set.init.plain F.entry_set_init (check_set_init_1 gT ?_)) fun r₂ s₂ hr₂ => ?_
      · obtain ⟨⟨ocls, odict, odata, oslots⟩, hol, hcl, nl, hdl⟩ := hl
        simp only at hcl hdl
        subst hcl hdl
        have g1 : (s.heap.push (setOb w)).get? l = some { cls := .type "list", dict := odict, data := .seq items nl, slots := oslots } := Heap.get?_push_of_some _ hol
        have u1 := F.sub_list_set; have u2 := F.sub_list_frozenset
        have u3 : (Value.type "list" == Value.type "dict") = false := by decide
        have gl : (s.heap.push (setOb w)).IsList l items := ⟨_, g1, rfl, nl, rfl⟩
        unfold Builtin.«set.__init__» noKeywords Builtin.Frozenset.updateFrom
        generalize hPI : pyIter = PI0
        wp_walk
        subst hPI
        refine wpAny_pyIter_list gl (wpAny_bind (wpAny_runValue ?_))
        have ll : l < s.heap.objs.size := Heap.lt_size hol
        have lI : l ≠ (s.heap.push (setOb w)).objs.size := by rw [Heap.size_push]; exact Nat.ne_of_lt (Nat.lt_succ_of_lt ll)
        have lS : s.heap.objs.size ∉ [(s.heap.push (setOb w)).objs.size, l] := by
          rw [Heap.size_push]; simp only [List.mem_cons, List.not_mem_nil, or_false, not_or]; exact And.intro (Nat.ne_of_lt (Nat.lt_succ_self _)) (Nat.ne_of_gt ll)
        have at_ : ∀ (i : Nat) (v : Value), items[i]? = some v → ∃ k t, ns[i]? = some k ∧ v = .int k t := fun i v hv => by
          have hi : i < ns.length := by have := (Array.getElem?_eq_some_iff.mp hv).1; omega
          obtain ⟨t, e⟩ := hit.int_at i v (by rw [Array.getElem?_toList]; exact hv)
          exact ⟨ns[i], t, List.getElem?_eq_getElem hi, by rw [e]; simp [hi]⟩
        refine set_update_ints ((Walks.list (by simp [hh]) _ l lI items).toS) s.heap.objs.size lS ns hsz hb at_ (items.size - 0) 0 _ (by omega) (Nat.zero_le _) ⟨⟨_, Heap.get?_push_size _ rfl, rfl, rfl⟩, (gl.push _)⟩ ?_ ?_
        · exact ⟨0, Nat.le_refl 0, setR_new_at (Heap.get?_push_of_some _ g0)⟩
        · rintro ⟨h', g2, d', tk', os'⟩ c' hm hc' hS'
          obtain ⟨eg, ed, eo⟩ := And.intro hm.gens (And.intro hm.drawn hm.os)
          simp only at eg ed eo
          subst eg ed eo
          refine wpAny_pure (show wpAny _ _ (ret Value.none) _ _ _ from wpAny_pure ⟨rfl, h', tk', c', rfl, hS', by rw [← hsz]; exact hc', fun b o e => ?_⟩)
          have hb0 : b < s.heap.objs.size := Heap.lt_size e
          refine hm.heap b o ?_ (Heap.get?_push_of_some _ (Heap.get?_push_of_some _ e))
          rw [Heap.size_push]; simp only [List.mem_cons, List.not_mem_nil, or_false, not_or]; exact And.intro (Nat.ne_of_lt hb0) (Nat.ne_of_lt (Nat.lt_succ_of_lt hb0))
      · rcases r₂ with e | fl₂
        · exact hr₂
        · cases fl₂ with
          | ret r =>
            obtain ⟨rfl, h', tk, c', rfl, hS', hc', hk'⟩ := hr₂
            (repeat (any_goals (first | assumption | wp_step)))
            exact h _ _ _ hS' hc' hk'
          | _ => exact hr₂.elim
    | _ => exact hr.elim
end
end PI
set_option autoImplicit false
set_option Elab.async false
set_option linter.all false
set_option maxRecDepth 100000
set_option autoImplicit false
/-! Pi18: len(set(ints)), sorted(set(ints)). -/
namespace PI
open PySem PySem.Spec PyProof.Rows L2
open R (RD_bnd)
def rSetI (K : PySem.W.Frag) (w : World) : List V → Hp → VK → Prop := fun xs H Q => ∃ (a : Addr) (ns : List Int), xs = [.ref a] ∧ (SqL K H a (ns.map V.int) ∨ SqT K H a (ns.map V.int)) ∧ ns.length ≤ 1000 ∧
  ∀ (p : Addr) (ks : List Int), ks.Nodup → (∀ k, k ∈ ks ↔ k ∈ ns) → H p = none → Q (.ref p) (upd H p (SetO w p (fun k => decide (k ∈ ns)) ks.length))
def rLenSetO (w : World) : List V → Hp → VK → Prop := fun xs H Q => ∃ (a : Addr) (S : Int → Bool) (n : Nat), xs = [.ref a] ∧ H a = some (SetO w a S n) ∧ Q (.int n) H
section
variable [Tables] {X : Cx} {E : XE}
omit [Tables] in
theorem cr_setI (hc : X.calm = true) : CallR X (.type "set") (rSetI X.K X.w) := by
  intro pins s σ H xs us Q I r h
  obtain ⟨a, ns, rfl, hs, hl, q⟩ := h
  rw [Vals.ref1 r]
  have fin : ∀ (h' : Heap) (tk c : Nat), SetR X.w h' s.heap.objs.size (fun j => decide (j ∈ ns)) c → c ≤ ns.length → (∀ b o, s.heap.get? b = some o → h'.get? b = some o) → EP X pins σ Q (.ref s.heap.objs.size) { s with heap := h', toks := tk } := fun h' tk c R hcn k => by
    obtain ⟨o, es, ep, t, ho, hex, hd, g, nd, hm, hb, hf, hn, hr, hl2⟩ := id R
    have hlen : (es.toList.map keyOf).length = c := by rw [List.length_map, Array.length_toList]; exact hn
    refine ⟨.ref _, upd H s.heap.objs.size (SetO X.w s.heap.objs.size (fun j => decide (j ∈ ns)) c), I.laid (t' := tk) k (Nat.le_refl _) (setO_new R), rfl, ?_⟩
    have := q s.heap.objs.size (es.toList.map keyOf) nd (fun j => by rw [← hm j]; simp) (I.hok.fresh (Nat.le_refl _))
    rwa [hlen] at this
  rcases hs with hs | hs
  · obtain ⟨its, rv, pl, hz⟩ := I.list hs
    exact set_of_list ns (I.ok.hd hc) pl.isList (by simpa using rv.ints) (by unfold scanBound; omega) fin
  · obtain ⟨its, rv, pl, hz⟩ := I.tuple hs
    exact call_set_tupI ns (I.ok.hd hc) (show s.heap.IsTuple a its.toArray from pl) (ints_of_vals rv) (by unfold scanBound; omega) fin
omit [Tables] in
theorem cr_lenSetO : CallR X (.builtin "len") (rLenSetO X.w) := by
  intro pins s σ H xs us Q I r h
  obtain ⟨a, S, n, rfl, ha, q⟩ := h
  rw [Vals.ref1 r]
  obtain ⟨o, es, ep, t, ho, hex, hd, g, nd, hm, hb, hf, hn, hr, hl2⟩ := setO_get I ha
  have h63 : (es.size : Int) < 2 ^ 63 := by
    have : es.size < 4096 := by unfold scanBound at hb; omega
    omega
  exact call_len_set ho hex hd hf h63 ⟨.int n, H, I.tok _, ⟨_, by rw [hn]⟩, q⟩
end
/-! ### without a second time -/
def dedI : List Int → List Int
  | [] => []
  | x :: xs => if x ∈ xs then dedI xs else x :: dedI xs
theorem dedI_mem {k : Int} : ∀ {xs : List Int}, k ∈ dedI xs ↔ k ∈ xs
  | [] => Iff.rfl
  | x :: xs => by
    unfold dedI
    by_cases h : x ∈ xs
    · rw [if_pos h, dedI_mem, List.mem_cons]
      constructor
      · exact .inr
      · rintro (rfl | h2)
        · exact h
        · exact h2
    · rw [if_neg h, List.mem_cons, List.mem_cons, dedI_mem]
theorem dedI_nodup : ∀ xs : List Int, (dedI xs).Nodup
  | [] => List.nodup_nil
  | x :: xs => by
    unfold dedI
    by_cases h : x ∈ xs
    · rw [if_pos h]; exact dedI_nodup xs
    · rw [if_neg h]; exact List.nodup_cons.mpr ⟨fun z => h (dedI_mem.mp z), dedI_nodup xs⟩
theorem dedI_self : ∀ {xs : List Int}, xs.Nodup → dedI xs = xs
  | [], _ => rfl
  | x :: xs, h => by
    have h := List.nodup_cons.mp h
    rw [dedI, if_neg h.1, dedI_self h.2]
theorem dedI_len_le : ∀ xs : List Int, (dedI xs).length ≤ xs.length
  | [] => Nat.le_refl _
  | x :: xs => by
    have := dedI_len_le xs
    unfold dedI
    split
    · rw [List.length_cons]; omega
    · rw [List.length_cons, List.length_cons]; omega
theorem dedI_len_lt : ∀ {xs : List Int}, ¬ xs.Nodup → (dedI xs).length < xs.length
  | [], h => absurd List.nodup_nil h
  | x :: xs, h => by
    unfold dedI
    split
    · have := dedI_len_le xs; rw [List.length_cons]; omega
    · rename_i hx
      have := dedI_len_lt (xs := xs) fun z => h (List.nodup_cons.mpr ⟨hx, z⟩)
      rw [List.length_cons, List.length_cons]; omega
theorem same_perm {xs ys : List Int} (h1 : xs.Nodup) (h2 : ys.Nodup) (h : ∀ k, k ∈ xs ↔ k ∈ ys) : xs.Perm ys := (List.perm_ext_iff_of_nodup h1 h2).mpr h
def numsOf : D → Option (List Int)
  | .list ds => intsOf ds
  | .tuple ds => intsOf ds
  | _ => none
@[simp] theorem numsOf_l (ns : List Int) : numsOf (.list (iL ns)) = some ns := intsOf_iL ns
@[simp] theorem numsOf_t (ns : List Int) : numsOf (.tuple (iL ns)) = some ns := intsOf_iL ns
def lenSetD (d : D) : R RV := match numsOf d with
  | some ns => if ns.length ≤ 1000 then .ok (.sh (.int (dedI ns).length)) else .bad
  | none => .bad
def sortSetD (d : D) : R RV := match numsOf d with
  | some ns => if ns.length < 64 then .ok (.fr (.lst (iL (sortI (dedI ns))))) else .bad
  | none => .bad
theorem lenSetD_t {ns : List Int} (h : ns.length ≤ 1000) : lenSetD (.tuple (iL ns)) = .ok (.sh (.int (dedI ns).length)) := by simp [lenSetD, h]
theorem lenSetD_l {ns : List Int} (h : ns.length ≤ 1000) : lenSetD (.list (iL ns)) = .ok (.sh (.int (dedI ns).length)) := by simp [lenSetD, h]
theorem sortSetD_t {ns : List Int} (h : ns.length < 64) : sortSetD (.tuple (iL ns)) = .ok (.fr (.lst (iL (sortI (dedI ns))))) := by simp [sortSetD, h]
theorem sortSetD_l {ns : List Int} (h : ns.length < 64) : sortSetD (.list (iL ns)) = .ok (.fr (.lst (iL (sortI (dedI ns))))) := by simp [sortSetD, h]
section
variable [Tables] {X : Cx} {E : XE} {S : Fm} {Hs H : Hp}
omit [Tables] in
theorem TopR.nums {K : PySem.W.Frag} {v : V} {d : D} {ns : List Int} (s : Same Hs H) (t : TopR Hs H v d) (h : numsOf d = some ns) : ∃ a, v = .ref a ∧ (SqL K H a (ns.map V.int) ∨ SqT K H a (ns.map V.int)) := by
  cases d with
  | list ds =>
    obtain ⟨p, xs, e, h1, h2, h3⟩ := t.list s
    rw [intsOf_map (show intsOf ds = some ns from h)] at h3
    exact ⟨p, e, .inl (SqL.of (by rw [h1, h3.ints_of]))⟩
  | tuple ds =>
    obtain ⟨p, xs, e, h1, h2, h3⟩ := t.tuple
    rw [intsOf_map (show intsOf ds = some ns from h)] at h3
    exact ⟨p, e, .inr (SqT.of (by rw [s _ _ h1, h3.ints_of]))⟩
  | _ => cases h
variable {p p2 q pos : Pos} {a : Expr} {fa : FE}
theorem ge_lenSet (hc : X.calm = true) (m1 : X.mg "len" = none) (m2 : X.mg "set" = none) (ha : GE X E a fa) (g1 : Gl X "len" := by rfl) (g2 : Gl X "set" := by rfl)
    (na : starEach [a] X.env = (false, eval a X.env) :: starEach [] X.env := by rfl) : GE X E (.Call (.Name "len" p) [.Call (.Name "set" p2) [a] [] q] [] pos) (fUn lenSetD fa) := by
  refine PE.imp (pe_callB cr_lenSetO g1 m1 (by decide +kernel) (pa_cons (pe_callTy (cr_setI hc) g2 m2 (by decide +kernel) (pa_cons ha pa_nil na) (he := na)) pa_nil rfl)) fun σ H Q ⟨S, Hs, env, ok, h⟩ => ?_
  refine tI.mono (bindH ok h) fun v H1 ⟨Hs1, x, s, o, r, q⟩ => ?_
  obtain ⟨d, e, q⟩ := RD.inv (rd_nox _ _) q
  obtain ⟨r2, e2, q⟩ := RD.inv (nox_nox _) q
  have t := o.rd r e
  have e2 := nox_ok_of e2
  unfold lenSetD at e2
  split at e2
  · rename_i ns hn
    split at e2
    · rename_i hl
      cases e2
      obtain ⟨a, rfl, hs⟩ := t.nums (K := X.K) o.sub hn
      refine ⟨a, ns, rfl, hs, hl, fun l ks h1 h2 hp => ⟨l, _, _, rfl, upd_same, ?_⟩⟩
      rw [(same_perm h1 (dedI_nodup ns) fun k => (h2 k).trans dedI_mem.symm).length_eq]
      exact PV.sh (o.alloc hp) (PV.from s q) (.int _)
    · cases e2
  · cases e2
theorem ge_sortSet (hc : X.calm = true) (m1 : X.mg "sorted" = none) (m2 : X.mg "set" = none) (ha : GE X E a fa) (g1 : Gl X "sorted" := by rfl) (g2 : Gl X "set" := by rfl)
    (na : starEach [a] X.env = (false, eval a X.env) :: starEach [] X.env := by rfl) : GE X E (.Call (.Name "sorted" p) [.Call (.Name "set" p2) [a] [] q] [] pos) (fUn sortSetD fa) := by
  refine PE.imp (pe_callB (cr_sortedSet hc) g1 m1 (by decide +kernel) (pa_cons (pe_callTy (cr_setI hc) g2 m2 (by decide +kernel) (pa_cons ha pa_nil na) (he := na)) pa_nil rfl)) fun σ H Q ⟨S, Hs, env, ok, h⟩ => ?_
  refine tI.mono (bindH ok h) fun v H1 ⟨Hs1, x, s, o, r, q⟩ => ?_
  obtain ⟨d, e, q⟩ := RD.inv (rd_nox _ _) q
  obtain ⟨r2, e2, q⟩ := RD.inv (nox_nox _) q
  have t := o.rd r e
  have e2 := nox_ok_of e2
  unfold sortSetD at e2
  split at e2
  · rename_i ns hn
    split at e2
    · rename_i hl
      cases e2
      obtain ⟨a, rfl, hs⟩ := t.nums (K := X.K) o.sub hn
      refine ⟨a, ns, rfl, hs, by omega, fun l ks h1 h2 hp => ?_⟩
      have hperm := same_perm h1 (dedI_nodup ns) fun k => (h2 k).trans dedI_mem.symm
      have hkl : ks.length ≤ ns.length := by rw [hperm.length_eq]; exact dedI_len_le ns
      refine ⟨l, _, _, rfl, upd_same, by omega, fun ns' p hlt hmem hlen hp2 => ?_⟩
      have nd : ns'.Nodup := hlt.imp fun h => Int.ne_of_lt h
      have e1 : ns' = sortI (dedI ns) := ord_uniq ((same_perm nd (dedI_nodup ns) fun k => by rw [hmem k, dedI_mem]; simp).trans (sortI_perm _).symm) (hlt.imp fun h => Int.le_of_lt h) (sortI_ord _)
      subst e1
      exact PV.lst (o.alloc hp) (PV.from s q) DqAll.ints (by rw [List.length_map, hlen, sizeL]; omega) hp2
    · cases e2
  · cases e2
end
end PI
set_option autoImplicit false
set_option Elab.async false
set_option linter.all false
set_option maxRecDepth 100000
set_option autoImplicit false
/-! Pi19: loops that may hand back. -/
namespace PI
open PySem
/-- on, or handed back -/
def NR (r : R Out) (I : Env → Prop) : Option RV → Prop
  | none => NxP r I
  | some v => RtP r v
theorem forL_nr {tg : FG} {body : FS} {I : Env → Prop} {α : Type} {c : α → D} {f : α → Option RV} : ∀ (xs : List α) (h : ∀ x ∈ xs, ∀ e, I e → ∃ e1, tg (c x) e = .ok e1 ∧ NR (body e1) I (f x)) (env : Env), I env → NR (forL tg body (xs.map c) env) I (xs.findSome? f)
  | [], _, env, i => ⟨env, rfl, i⟩
  | x :: xs, h, env, i => by
    obtain ⟨e1, h1, h2⟩ := h x (by simp) env i
    rw [List.findSome?_cons]
    cases hf : f x with
    | none =>
      rw [hf] at h2
      obtain ⟨e2, h2, i2⟩ := h2
      have := forL_nr xs (fun a ha => h a (List.mem_cons_of_mem _ ha)) e2 i2
      rw [List.map_cons, forL, h1, R.nox_ok, R.bnd_ok, h2, R.bnd_ok]
      exact this
    | some v =>
      rw [hf] at h2
      obtain ⟨e2, h2⟩ := h2
      refine ⟨e2, ?_⟩
      rw [List.map_cons, forL, h1, R.nox_ok, R.bnd_ok, h2, R.bnd_ok]
theorem NR.mono {r : R Out} {I J : Env → Prop} {o : Option RV} (h : NR r I o) (hi : ∀ e, I e → J e) : NR r J o := by
  cases o with
  | none => exact NxP.mono h hi
  | some v => exact h
end PI
set_option autoImplicit false
set_option Elab.async false
set_option linter.all false
set_option maxRecDepth 100000
set_option autoImplicit false
/-! Pi20: {}, dict(pairs), dict(d), d.get(k, x), sorted(data), sorted(d). -/
namespace PI
open PySem PySem.Spec PyProof.Rows L2
open R (RD_bnd)
/-! ### {} -/
def fDict0 (t : Bool) : FE := fun env => .ok (.fr (.dct t []), env)
section
variable [Tables] {X : Cx} {E : XE}
theorem ge_dict0 (t : Bool) {pos : Pos} : GE X E (.Dict [] [] pos) (fDict0 t) := by
  cases t with
  | false => exact PE.imp pe_dnewK fun σ H Q ⟨S, Hs, env, ok, h⟩ p hp => h (.ref p) Hs _ (Same.refl _) (ok.alloc hp) ⟨p, rfl, ok.newOwn hp ⟨[], rfl, Nat.zero_le _, .nil⟩, (ok.free hp).2.2.2⟩
  | true => exact PE.imp pe_dnewT fun σ H Q ⟨S, Hs, env, ok, h⟩ p hp => h (.ref p) Hs _ (Same.refl _) (ok.alloc hp) ⟨p, rfl, ok.newOwn hp ⟨[], rfl, Nat.zero_le _, .nil⟩, (ok.free hp).2.2.2⟩
end
/-! ### dict(pairs), dict(d) -/
def pairK : D → Option (D × D)
  | .tuple [k, v] => if keyB k then some (k, v) else none
  | _ => none
def pairsK : List D → Option (List (D × D))
  | [] => some []
  | d :: ds => (pairK d).bind fun p => (pairsK ds).map (p :: ·)
def putAll (kvs : List (D × D)) (ps : List (D × D)) : List (D × D) := ps.foldl (fun a p => putD a p.1 p.2) kvs
def dictD : List D → R RV
  | [.list ds] => match pairsK ds with
    | some ps => .ok (.fr (.dct false (putAll [] ps)))
    | none => .bad
  | [d] => match kvOf d with
    | some (false, kvs) => .ok (.fr (.dct false kvs))
    | _ => .bad
  | _ => .bad
theorem PV.dct [Tables] {S : Fm} {Hs H : Hp} {σ : St} {env : Env} {Q : VK} {kvs : List (D × D)} {ks : List (Key × V)} {p : Addr} (ok : Ok S Hs H σ env) (q : PV S Hs σ Q (.fr (.dct false kvs), env)) (h : DqK Hs ks kvs) (hz : ks.length ≤ sizeLine) (hp : H p = none) : Q (.ref p) (upd H p (.dK ks)) :=
  q (.ref p) Hs _ (Same.refl _) (ok.alloc hp) ⟨p, rfl, ok.newOwn hp ⟨ks, rfl, hz, h⟩, (ok.free hp).2.2.2⟩
theorem DqK.putAll {H : Hp} : ∀ {more : List (Key × V)} {ps : List (D × D)}, DqK H more ps → ∀ {ks : List (Key × V)} {kvs : List (D × D)}, DqK H ks kvs → DqK H (mergeK ks more) (putAll kvs ps)
  | _, _, .nil, _, _, h => h
  | _, _, .cons (k := k) hd r, _, _, h => DqK.putAll r (h.put k hd)
theorem pairK_of {d : D} {p : D × D} (h : pairK d = some p) : d = .tuple [p.1, p.2] ∧ keyB p.1 = true := by
  unfold pairK at h
  split at h
  · split at h
    · rename_i hk
      cases h
      exact ⟨rfl, hk⟩
    · cases h
  · cases h
theorem pairs_at {K : PySem.W.Frag} {Hs H : Hp} (sm : Same Hs H) : ∀ {ds : List D} {xs : List V} {ps : List (D × D)}, DqAll Hs xs ds → pairsK ds = some ps → ∃ (as : List Addr) (ks : List (Key × V)), xs = as.map V.ref ∧ Paired (fun p kv => SqT K H p [kV kv.1, kv.2]) as ks ∧ DqK Hs ks ps
  | [], _, _, .nil, e => by cases e; exact ⟨[], [], rfl, .nil, .nil⟩
  | d :: ds, _, _, .cons (v := v) h r, e => by
    unfold pairsK at e
    cases hk : pairK d with
    | none => rw [hk] at e; cases e
    | some p =>
      rw [hk] at e
      cases hr : pairsK ds with
      | none => rw [hr] at e; cases e
      | some ps =>
        rw [hr] at e
        cases e
        obtain ⟨as, ks, rfl, h2, h3⟩ := pairs_at sm r hr
        obtain ⟨rfl, hkb⟩ := pairK_of hk
        obtain ⟨k, w⟩ := p
        obtain ⟨kk, rfl⟩ := keyB_of hkb
        cases h with
        | tup g1 g2 g3 =>
          cases g3 with
          | cons a1 b1 =>
            cases b1 with
            | cons a2 b2 =>
              cases b2
              rw [kV_of a1] at g1
              exact ⟨_ :: as, (kk, _) :: ks, rfl, .cons (SqT.of (sm _ _ g1)) h2, .cons a2 h3⟩
section
variable [Tables] {X : Cx} {E : XE}
theorem cr_dictD (hc : X.calm = true) : CallR X (.type "dict") (rL dictD) := by
  rintro pins s σ H xs us Q I r ⟨S, Hs, σ', env, ds, rr, ok, t, e, q⟩
  unfold dictD at e
  split at e
  · rename_i l
    split at e
    · rename_i ps hps
      cases e
      obtain ⟨x, rfl, t1⟩ := t.one
      obtain ⟨p, ys, rfl, h1, h2, h3⟩ := t1.list ok.sub
      obtain ⟨as, ks, rfl, g2, g3⟩ := pairs_at (K := X.K) ok.sub h3 hps
      refine call_dictP hc pins s σ H _ us Q I r ⟨p, as, ks, rfl, SqL.of h1, g2, fun a ha => ?_⟩
      refine PV.dct ok q (DqK.putAll g3 .nil) ?_ ha
      refine Nat.le_trans (length_mergeK ks []) ?_
      have e1 : ks.length = as.length := (Paired.length g2).symm
      rw [List.length_map] at h2
      simp only [List.length_nil]
      omega
    · cases e
  · split at e
    · rename_i d _ kvs hk
      cases e
      obtain ⟨x, rfl, t1⟩ := t.one
      obtain ⟨p, rfl, hd⟩ := t1.dct ok.sub hk
      obtain ⟨ks, h1, h2⟩ := hd
      exact call_dictD pins s σ H _ us Q I r ⟨p, ks, rfl, h1, fun a ha => PV.dct ok q h2 (by have := (dk_rd I.hok h1).1; exact this) ha⟩
    · cases e
  · cases e
/-! ### d.get(k, x) -/
def getD2 (d k x : D) : R D := match kvOf d with
  | some (t, kvs) => if okKey t k = true then .ok ((look kvs k).getD x) else .bad
  | none => .bad
def fGet2 (a b c : FE) : FE := fun env => (a env).bnd fun x => (rd x.2 (hold x.1)).bnd fun d0 => if (kvOf d0).isSome = true then (b x.2).bnd fun y => (c y.2).bnd fun z => (fzL z.2 z.1).bnd fun w =>
  (rd w.2 (hold x.1)).bnd fun d1 => (rd w.2 (hold y.1)).bnd fun d2 => (getD2 d1 d2 w.1).nox.bnd fun r => .ok (.sh r, w.2) else .bad
omit [Tables] in
theorem DctR.isD {Hs H : Hp} {p : Addr} {t : Bool} {kvs : List (D × D)} (h : DctR Hs H p t kvs) : IsD H p := by
  cases t with
  | false => obtain ⟨ks, h1, _⟩ := h; exact .inl ⟨ks, h1⟩
  | true => obtain ⟨ks, h1, _⟩ := h; exact .inr ⟨ks, h1⟩
theorem ge_get2 {o e f : Expr} {fa fb fc : FE} {apos cpos : Pos} (hu : X.A.units + 64 < cLine) (ha : GE X E o fa) (hb : GE X E e fb) (hcx : GE X E f fc) (m : M2 X o "get" apos e f cpos := by exact ⟨rfl, rfl, rfl, rfl⟩) :
    GE X E (.Call (.Attribute o "get" apos) [e, f] [] cpos) (fGet2 fa fb fc) := by
  refine PE.imp (pe_dget2 (by omega) ha hb (ge_fz hcx) m) fun σ H Q ⟨S, Hs, env, ok, h⟩ => ?_
  refine tI.mono (bindH ok h) fun v H1 ⟨Hs1, x, s1, o1, r1, q⟩ => ?_
  obtain ⟨d0, e0, q⟩ := RD.inv (rd_nox _ _) q
  split at q
  · rename_i hk0
    obtain ⟨⟨t0, kvs0⟩, hk0⟩ := Option.isSome_iff_exists.mp hk0
    obtain ⟨p, rfl, hd0⟩ := (o1.rd r1 e0).dct o1.sub hk0
    refine ⟨p, rfl, hd0.isD, ?_⟩
    refine tI.mono (bindH o1 q) fun w H2 ⟨Hs2, y, s2, o2, r2, q⟩ => ?_
    refine fI.mono (bindL o2 q) fun u H3 ⟨Hs3, z, s3, o3, d3, q⟩ => ?_
    obtain ⟨d1, e1, q⟩ := RD.inv (rd_nox _ _) q
    obtain ⟨d2, e2, q⟩ := RD.inv (rd_nox _ _) q
    obtain ⟨r, e3, q⟩ := RD.inv (nox_nox _) q
    have e3 := nox_ok_of e3
    have t1 := o3.rd (r1.later (H' := H3) (env' := z.2) (s2.trans s3)) e1
    have t2 := o3.rd (r2.later (H' := H3) (env' := z.2) s3) e2
    unfold getD2 at e3
    split at e3
    · rename_i t kvs hk
      split at e3
      · rename_i hkey
        cases e3
        obtain ⟨p', ep, hd⟩ := t1.dct o3.sub hk
        cases ep
        obtain ⟨ov, g, rel⟩ := dget_of o3.sub hd hkey t2
        refine ⟨ov, g, q _ Hs3 H3 (s1.trans (s2.trans s3)) o3 ?_⟩
        show Dq Hs3 (ov.getD u) ((look kvs d2).getD z.1)
        cases hl : look kvs d2 with
        | none =>
          rw [hl] at rel
          cases ov with
          | none => exact d3
          | some _ => exact rel.elim
        | some dv =>
          rw [hl] at rel
          obtain ⟨v', rfl, hv⟩ := rel.some_of
          exact hv
      · cases e3
    · cases e3
  · exact q.elim
end
end PI
set_option autoImplicit false
set_option Elab.async false
set_option linter.all false
set_option maxRecDepth 100000
set_option autoImplicit false
/-! Pi21: sorted(data), sorted(d). -/
namespace PI
open PySem PySem.Spec PyProof.Rows L2
open R (RD_bnd)
/-- a value that stands for shared data -/
def vR (H : Hp) (v : Value) (d : D) : Prop := ∃ x : V, RelV x v ∧ Dq H x d
theorem each_of {H : Hp} : ∀ {xs : List V} {its : List Value} {ds : List D}, Vals xs its → DqAll H xs ds → PySem.W.EachIs (vR H) its ds
  | _, _, _, .nil, .nil => .nil
  | _, _, _, .cons r rs, .cons h hs => .cons ⟨_, r, h⟩ (each_of rs hs)
theorem of_each {H : Hp} : ∀ {its : List Value} {ds : List D}, PySem.W.EachIs (vR H) its ds → ∃ xs, Vals xs its ∧ DqAll H xs ds
  | _, _, .nil => ⟨[], .nil, .nil⟩
  | _, _, .cons ⟨x, r, h⟩ e => by
    obtain ⟨xs, rs, hs⟩ := of_each e
    exact ⟨x :: xs, .cons r rs, .cons h hs⟩
mutual
theorem reads_lt {h : Heap} : ∀ (d : D) (v : Value) (as : List Addr), d.plain = true → Reads h v d as → ∀ a ∈ as, a < h.objs.size
  | .none, _, _, _, r, a, m => by cases r; cases m
  | .bool _, _, _, _, r, a, m => by cases r; cases m
  | .int _, _, _, _, r, a, m => by cases r; cases m
  | .str _, _, _, _, r, a, m => by cases r; cases m
  | .list xs, _, as, hp, r, a, m => by
    cases r with
    | list h1 h2 h3 h4 =>
      rcases List.mem_cons.mp m with rfl | m
      · exact Heap.lt_size h1
      · exact reads_all_lt xs _ _ (by simpa only [PyData.plain] using hp) h4 a m
  | .tuple xs, _, as, hp, r, a, m => by
    cases r with
    | tuple h1 h2 h3 h4 => exact reads_all_lt xs _ _ (by simpa only [PyData.plain] using hp) h4 a m
  | .dict _, _, _, hp, r, a, m => by simp [PyData.plain] at hp
theorem reads_all_lt {h : Heap} : ∀ (ds : List D) (vs : List Value) (as : List Addr), PyData.plainAll ds = true → ReadsAll h vs ds as → ∀ a ∈ as, a < h.objs.size
  | [], _, _, _, r, a, m => by cases r; cases m
  | d :: ds, _, _, hp, r, a, m => by
    rw [PyData.plainAll, Bool.and_eq_true] at hp
    cases r with
    | cons h1 h2 =>
      rcases List.mem_append.mp m with m | m
      · exact reads_lt d _ _ hp.1 h1 a m
      · exact reads_all_lt ds _ _ hp.2 h2 a m
end
def isTup1 : D → Bool
  | .tuple (_ :: _) => true
  | _ => false
def isTupN : D → Bool
  | .tuple _ => true
  | .none => true
  | _ => false
def sortOk (ds : List D) : Bool := (ds.all fun d => d.plain && decide (d.depth ≤ 60)) && ((ds.all fun d => ds.all fun e => PySem.W.alike d e) && (ds.all isTup1 || ds.all fun d => !isTupN d))
def sortDs (ds : List D) : List D := ds.mergeSort (PySem.W.dataLe false id)
def sortA : List D → R RV
  | [.list ds] => if sortOk ds = true then .ok (.fr (.lst (sortDs ds))) else .bad
  | [d] => match kvOf d with
    | some (_, kvs) => if sortOk (kvs.map (·.1)) = true then .ok (.fr (.lst (sortDs (kvs.map (·.1))))) else .bad
    | none => .bad
  | _ => .bad
structure SortP (ds : List D) : Prop where
  plain : ∀ d ∈ ds, d.plain = true
  depth : ∀ d ∈ ds, d.depth ≤ 60
  alike : PySem.W.AllAlike ds
  kind : PySem.W.Sortable ds
theorem sortP_of {ds : List D} (h : sortOk ds = true) : SortP ds := by
  unfold sortOk at h
  rw [Bool.and_eq_true, Bool.and_eq_true, Bool.or_eq_true, List.all_eq_true, List.all_eq_true, List.all_eq_true, List.all_eq_true] at h
  obtain ⟨h1, h2, h3⟩ := h
  refine ⟨fun d hd => ?_, fun d hd => ?_, fun d hd e he => List.all_eq_true.mp (h2 d hd) e he, ?_⟩
  · have := h1 d hd; rw [Bool.and_eq_true] at this; exact this.1
  · have := h1 d hd; rw [Bool.and_eq_true, decide_eq_true_eq] at this; exact this.2
  · rcases h3 with h3 | h3
    · left
      intro d hd
      have := h3 d hd
      unfold isTup1 at this
      split at this
      · exact ⟨_, _, rfl⟩
      · cases this
    · right
      intro d hd
      have := h3 d hd
      refine ⟨?_, ?_⟩
      · rintro rfl; cases this
      · rintro xs rfl; cases this
theorem vR_reads {X : Cx} {pins : List (Addr × Obj)} {σ : St} {Hs H : Hp} {s : Shared} {ds : List D} (I : Inv X pins σ H s) (sm : Same Hs H) (hp : ∀ d ∈ ds, d.plain = true) : ∀ {its : List Value}, PySem.W.EachIs (vR Hs) its ds → PySem.W.EachIs (fun v d => ∃ as, Reads s.heap v (id d) as ∧ ∀ a ∈ as, a < s.heap.objs.size) its ds := by
  induction ds with
  | nil => intro its e; cases e; exact .nil
  | cons d ds ih =>
    intro its e
    cases e with
    | cons h r =>
      obtain ⟨x, rx, hx⟩ := h
      refine .cons ?_ (ih (fun d hd => hp d (List.mem_cons_of_mem _ hd)) r)
      obtain ⟨as, ra⟩ := Dp.reads I d x _ ((hx.mono sm).dp (hp d List.mem_cons_self)) rx
      exact ⟨as, ra, reads_lt d _ _ (hp d List.mem_cons_self) ra⟩
theorem sortDs_len (ds : List D) : (sortDs ds).length = ds.length := List.length_mergeSort ds
section
variable [Tables] {X : Cx} {E : XE}
omit [Tables] in
/-- what a walk has gathered is sorted -/
theorem sorted_step {pins : List (Addr × Obj)} {s : Shared} {σ : St} {Hs H : Hp} {T : String} {r d : Addr} {n : Nat} {P : Nat → Value → Prop} {OK : Heap → Prop} {Q : VK} {ds : List D} (hc : X.calm = true) (hu : X.A.units + 64 < cLine) (I : Inv X pins σ H s) (K : PySem.W.KdlSrc X.prog X.w T r d n P OK) (hok : OK s.heap) (hn : n ≤ sizeLine) (sp : SortP ds)
    (hd : ∀ acc : Array Value, ItemsOf P acc n → ∃ xs, Vals xs acc.toList ∧ DqAll Hs xs ds) (sm : Same Hs H) (q : ∀ p ys, H p = none → DqAll Hs ys (sortDs ds) → ys.length ≤ sizeLine → Q (.ref p) (upd H p (.lst ys))) :
    wpAny (model X.prog X.w) X.A (call (.builtin "sorted") [.ref r]) (EP X pins σ Q) X.xe s := by
  refine Calls.call_function_entry PyProof.Rows.kind_sorted PyProof.Rows.plain_sorted PyProof.Rows.entry_sorted (PyProof.Rows.args_sorted1 _) ?_
  unfold Builtin.«sorted»
  refine wpAny_bind (m := checkCount "sorted" 1 1 _) (wpAny_pure ?_)
  refine wpAny_bind (PySem.W.kdu_collect (A := X.A.in1) K (I.ok.hd hc) hok hn fun h' tk acc hk hacc => ?_)
  obtain ⟨xs, rv, hq⟩ := hd acc hacc
  have hal : acc.toList.length = ds.length := by rw [← rv.length]; exact hq.length
  have hln : ds.length = n := by rw [← hal, Array.length_toList, hacc.1]
  have I1 : Inv X pins σ H { s with heap := h', toks := tk } := I.kept hk
  refine wpAny_bind (wpAny_newList ?_ (by rw [hal, hln]; exact hn))
  have hoL : (h'.push (seqObj "list" acc.toList.toArray 0)).get? h'.objs.size = some (seqObj "list" acc.toList.toArray 0) := Heap.get?_push_size _ rfl
  have eR := each_of rv hq
  have eD := vR_reads I1 sm sp.plain eR
  have eD2 : PySem.W.EachIs (fun v d => ∃ as, Reads (h'.push (seqObj "list" acc.toList.toArray 0)) v (id d) as ∧ h'.objs.size ∉ as) acc.toList ds := eD.mono fun v d ⟨as, ra, rl⟩ => ⟨as, PyProof.Rows.Reads.keeps (fun b o e => Heap.get?_push_of_some _ e) ra, fun z => Nat.lt_irrefl _ (rl _ z)⟩
  show wpAny _ _ _ _ _ { s with heap := h'.push (seqObj "list" acc.toList.toArray 0), toks := tk }
  refine wpAny_bind (wpAny_holding (PySem.W.list_sort_data (A := X.A.in1) (s := { s with heap := h'.push (seqObj "list" acc.toList.toArray 0), toks := tk }) (enc := id) hoL eR eD2 (by rw [List.map_id]; exact sp.alike) (by rw [List.map_id]; exact sp.kind) (by rw [hln]; exact hn) (fun b hb => ?_) fun out hol eo => ?_))
  · have := sp.depth b hb
    show X.A.units + 1 + 1 + b.depth < cLine
    omega
  obtain ⟨ys, ry, hy⟩ := of_each eo
  obtain ⟨e', he'⟩ := PyProof.Rows.sortedHeap_at (vs := acc.toList) (out := out.toArray) hoL
  have hlen : ys.length ≤ sizeLine := by
    rw [hy.length, List.length_mergeSort, hln]; exact hn
  refine wpAny_pure ⟨_, rfl, .ref h'.objs.size, upd H h'.objs.size (.lst ys), I1.laid (t' := tk) (fun b u e => ?_) (Nat.le_refl _)
    (show ObjOk X.prog X.w _ _ _ (.lst ys) from ⟨hlen, out, e', ry, he'⟩), rfl, q _ ys (I1.hok.fresh (Nat.le_refl _)) hy hlen⟩
  have hb : b < h'.objs.size := Heap.lt_size e
  rw [PyProof.Rows.sortedHeap_old (Nat.ne_of_lt hb) (by rw [size_push']; exact Nat.lt_succ_of_lt hb)]
  exact Heap.get?_push_of_some _ e

omit [Tables] in
theorem DqAll.keysOf {H : Hp} : ∀ k : List Key, DqAll H (k.map kV) (k.map kD)
  | [] => .nil
  | .inl i :: k => .cons (.int i) (DqAll.keysOf k)
  | .inr x :: k => .cons (.str x) (DqAll.keysOf k)
omit [Tables] in
theorem DqK.keys {H Hs : Hp} : ∀ {ks : List (Key × V)} {kvs : List (D × D)}, DqK Hs ks kvs → DqAll H (ks.map fun p => kV p.1) (kvs.map (·.1))
  | _, _, .nil => .nil
  | _, _, .cons (k := .inl i) _ r => .cons (.int i) (DqK.keys r)
  | _, _, .cons (k := .inr x) _ r => .cons (.str x) (DqK.keys r)
theorem adoptKeys {S : Fm} {H : Hp} {σ : St} {env : Env} : ∀ {ks : List (List Key × V)} {kvs : List (D × D)} {bs : List Addr} {Hs : Hp}, Ok S Hs H σ env → DqT Hs ks kvs → IsKeys H ks bs → ∃ Hs', Same Hs Hs' ∧ Ok S Hs' H σ env ∧ DqAll Hs' (bs.map V.ref) (kvs.map (·.1))
  | _, _, _, Hs, ok, .nil, h => by cases h; exact ⟨Hs, Same.refl _, ok, .nil⟩
  | _, _, _, Hs, ok, .cons (k := k) z _ r, h => by
    cases h with
    | cons hb hr =>
      rename_i b bs
      cases f : Hs b with
      | none =>
        obtain ⟨Hs', s', ok', h'⟩ := adoptKeys (ok.adoptT hb f) (r.mono (same_upd f)) hr
        exact ⟨Hs', (same_upd f).trans s', ok', .cons (.tup (s' _ _ upd_same) (by rw [List.length_map]; exact z) (DqAll.keysOf k)) h'⟩
      | some o =>
        have := ok.sub _ _ f
        rw [hb] at this; cases this
        obtain ⟨Hs', s', ok', h'⟩ := adoptKeys ok r hr
        exact ⟨Hs', s', ok', .cons (.tup (s' _ _ f) (by rw [List.length_map]; exact z) (DqAll.keysOf k)) h'⟩
theorem cr_sortA (hc : X.calm = true) (hu : X.A.units + 64 < cLine) : CallR X (.builtin "sorted") (rL sortA) := by
  rintro pins s σ H xs us Q I r ⟨S, Hs, σ', env, ds, rr, ok, t, e, q⟩
  unfold sortA at e
  split at e
  · rename_i l
    split at e
    · rename_i hs
      cases e
      have sp := sortP_of hs
      obtain ⟨x, rfl, t1⟩ := t.one
      obtain ⟨p, ys, rfl, h1, h2, h3⟩ := t1.list ok.sub
      obtain rfl := Vals.ref1 r
      obtain ⟨its, rv, pl, hz⟩ := I.list (SqL.of h1)
      have eR := each_of rv h3
      have hl := h3.length
      refine PySem.W.sorted_data (enc := id) pl.isList eR ((vR_reads I ok.sub sp.plain eR).mono fun _ _ ⟨as, ra, _⟩ => ⟨as, ra⟩) (by rw [List.map_id]; exact sp.alike) (by rw [List.map_id]; exact sp.kind) (by omega) (fun b hb => ?_) fun out hol eo => ?_
      · have := sp.depth b hb
        show X.A.units + 2 + b.depth < cLine
        omega
      · obtain ⟨zs, ry, hy⟩ := of_each eo
        obtain ⟨e', he'⟩ := PyProof.Rows.sortedAll_at s.heap its out.toArray
        have hlen : zs.length ≤ sizeLine := by rw [hy.length, List.length_mergeSort]; omega
        exact ⟨.ref _, upd H (s.heap.objs.size + 1) (.lst zs), I.laid (t' := s.toks) (fun b u e => sortedAll_old e) (Nat.le_succ _) (show ObjOk X.prog X.w _ _ _ (.lst zs) from ⟨hlen, out, e', ry, he'⟩), rfl, PV.lst ok q hy hlen (I.hok.fresh (Nat.le_succ _))⟩
    · cases e
  · rename_i d _
    split at e
    · rename_i t' kvs hk
      split at e
      · rename_i hs
        cases e
        have sp := sortP_of hs
        obtain ⟨x, rfl, t1⟩ := t.one
        obtain ⟨p, rfl, hd⟩ := t1.dct ok.sub hk
        obtain rfl := Vals.ref1 r
        cases t' with
        | false =>
          obtain ⟨ks, h1, h2⟩ := hd
          obtain ⟨z, lo, vs, rel, dd⟩ := dk_rd I.hok h1
          obtain ⟨ep, hat⟩ := dd.dictAt
          refine sorted_step hc hu I (PySem.W.kdl_dict (knd := mixKind X.prog X.w) (kvs := vs) (ep := ep) lo) hat (by rw [← rel.length]; exact z) sp (fun acc hacc => ⟨ks.map fun kv => kV kv.1, ?_, h2.keys⟩) ok.sub fun p' ys hp' hy hz => PV.lst ok q hy hz hp'
          have e1 := congrArg (List.map kV) rel.keys
          rw [List.map_map, List.map_map] at e1
          have e2 : (ks.map fun kv => kV kv.1) = vs.map fun p => kV p.1 := e1
          rw [e2]
          exact keys_at (by rw [Array.length_toList]; exact hacc.1) fun j v e => hacc.2 j v (by rw [← Array.getElem?_toList]; exact e)
        | true =>
          obtain ⟨ks, h1, h2⟩ := hd
          obtain ⟨z, hsm, xs, pr, o, es, ep, ho, hx, hdt, he, hn⟩ := (show ObjOk X.prog X.w H s.heap p (.dT ks) from h1.ok I.hok)
          have l1 : es.size = xs.length := size_of_entries he
          have l2 : ks.length = xs.length := Paired.length pr
          obtain ⟨Hs', s', ok', hq⟩ := adoptKeys ok h2 (isKeys_of pr)
          refine sorted_step hc hu I (kdl_raw hsm hx hdt) ho (by omega) sp (fun acc' it => ⟨(xs.map fun x => x.2.1).map V.ref, ?_, hq⟩) ok'.sub fun p' ys hp' hy hz => PV.lst ok' (PV.from s' q) hy hz hp'
          have ea : acc'.toList = xs.map fun x => Value.ref x.2.1 := by
            apply List.ext_getElem?
            intro j
            rw [List.getElem?_map]
            cases hj : acc'.toList[j]? with
            | none =>
              have h1 := List.getElem?_eq_none_iff.mp hj
              have hl : acc'.toList.length = xs.length := by rw [Array.length_toList, it.1]; exact l1
              rw [List.getElem?_eq_none (by omega)]
              all_goals rfl
            | some v =>
              obtain ⟨en, hen, hv⟩ := it.2 j v (by rw [← Array.getElem?_toList]; exact hj)
              have qe := entry_at he j
              rw [hen] at qe
              cases hb : xs[j]? with
              | none =>
                rw [hb] at qe
                exact nomatch (show some en = none from qe)
              | some b =>
                rw [hb] at qe
                have e2 : en = entryOfKey (tupleKind (mixKind X.prog X.w)) b := Option.some.inj qe
                rw [hv, e2]
                all_goals rfl
          have eb : acc'.toList = (xs.map fun x => x.2.1).map Value.ref := by rw [ea, List.map_map]; all_goals rfl
          rw [eb]
          exact vals_refs _
      · cases e
    · cases e
  · cases e
end
end PI
set_option autoImplicit false
set_option Elab.async false
set_option linter.all false
set_option maxRecDepth 100000
set_option autoImplicit false
/-! Pi22: dicts and sorting, by simp and in plain words. -/
namespace PI
open PySem
theorem hu1 {k : Nat} {A : Around} (hr : L2.Room k A) : A.units + 1 < cLine := by have := hu64 hr; omega
section
variable (env : Env)
@[simp ↓] theorem v_dict0 (t : Bool) : fDict0 t env = .ok (.fr (.dct t []), env) := rfl
@[simp ↓] theorem v_get2 (a b c : FE) : fGet2 a b c env = (a env).bnd fun x => (rd x.2 (hold x.1)).bnd fun d0 => if (kvOf d0).isSome = true then (b x.2).bnd fun y => (c y.2).bnd fun z => (fzL z.2 z.1).bnd fun w =>
  (rd w.2 (hold x.1)).bnd fun d1 => (rd w.2 (hold y.1)).bnd fun d2 => (getD2 d1 d2 w.1).nox.bnd fun r => .ok (.sh r, w.2) else .bad := rfl
end
@[simp] theorem mkD_f (kvs : List (D × D)) : mkD false kvs = kvs := rfl
@[simp] theorem kvOf_T (kvs : List (D × D)) : kvOf (.dict (mkD true kvs)) = some (true, kvs) := rfl
@[simp] theorem okKey_i (i : Int) : okKey false (.int i) = true := rfl
@[simp] theorem okKey_s (i : Str) : okKey false (.str i) = true := rfl
@[simp] theorem okKey_t (ds : List D) : okKey true (.tuple ds) = ds.all keyB := rfl
@[simp] theorem keyB_i (i : Int) : keyB (.int i) = true := rfl
@[simp] theorem keyB_s (i : Str) : keyB (.str i) = true := rfl
/-! ### a dict in plain words -/
section
variable {κ β : Type} [DecidableEq κ]
def lookA (kvs : List (κ × β)) (k : κ) : Option β := (kvs.find? fun p => decide (p.1 = k)).map (·.2)
def putA (kvs : List (κ × β)) (k : κ) (v : β) : List (κ × β) := if k ∈ kvs.map (·.1) then kvs.map (fun p => if p.1 = k then (p.1, v) else p) else kvs ++ [(k, v)]
def dK (g : κ → D) (f : β → D) (kvs : List (κ × β)) : List (D × D) := kvs.map fun p => (g p.1, f p.2)
@[simp] theorem dK_nil (g : κ → D) (f : β → D) : dK g f [] = [] := rfl
theorem dK_len (g : κ → D) (f : β → D) (kvs : List (κ × β)) : (dK g f kvs).length = kvs.length := List.length_map _
theorem dK_keys (g : κ → D) (f : β → D) (kvs : List (κ × β)) : (dK g f kvs).map (·.1) = (kvs.map (·.1)).map g := by simp [dK]
theorem dK_vals (g : κ → D) (f : β → D) (kvs : List (κ × β)) : (dK g f kvs).map (·.2) = (kvs.map (·.2)).map f := by simp [dK]
/-- keys as data -/
def KeyG (g : κ → D) : Prop := ∀ a b, PyData.eqv (g a) (g b) = decide (a = b)
theorem look_dK {g : κ → D} (hg : KeyG g) (f : β → D) (k : κ) : ∀ kvs : List (κ × β), look (dK g f kvs) (g k) = (lookA kvs k).map f
  | [] => rfl
  | p :: kvs => by
    have ih := look_dK hg f k kvs
    unfold look lookA dK at ih ⊢
    rw [List.map_cons, List.find?_cons, List.find?_cons]
    rw [hg]
    cases h : decide (p.1 = k)
    · exact ih
    · rfl
theorem any_dK {g : κ → D} (hg : KeyG g) (f : β → D) (k : κ) (kvs : List (κ × β)) : ((dK g f kvs).any fun p => PyData.eqv p.1 (g k)) = decide (k ∈ kvs.map (·.1)) := by
  unfold dK
  rw [List.any_map]
  induction kvs with
  | nil => rfl
  | cons p kvs ih =>
    rw [List.any_cons, ih]
    show (PyData.eqv (g p.1) (g k) || _) = _
    rw [hg]
    simp only [List.map_cons, List.mem_cons]
    by_cases h : p.1 = k
    · simp [h]
    · have h2 : ¬ k = p.1 := fun e => h e.symm
      simp [h, h2]
theorem put_dK {g : κ → D} (hg : KeyG g) (f : β → D) (k : κ) (v : β) (kvs : List (κ × β)) : putD (dK g f kvs) (g k) (f v) = dK g f (putA kvs k v) := by
  unfold putD putA
  rw [any_dK hg]
  by_cases h : k ∈ kvs.map (·.1)
  · rw [if_pos (decide_eq_true h), if_pos h]
    unfold dK
    rw [List.map_map, List.map_map]
    apply List.map_congr_left
    intro p _
    show (if PyData.eqv (g p.1) (g k) = true then (g p.1, f v) else (g p.1, f p.2)) = (fun p : κ × β => (g p.1, f p.2)) (if p.1 = k then (p.1, v) else p)
    rw [hg]
    by_cases e : p.1 = k
    · rw [if_pos (decide_eq_true e), if_pos e]
    · rw [if_neg (by simp [e]), if_neg e]
  · rw [if_neg (by simp only [decide_eq_true_eq]; exact h), if_neg h]
    unfold dK
    rw [List.map_append]
    rfl
theorem putA_len (kvs : List (κ × β)) (k : κ) (v : β) : (putA kvs k v).length ≤ kvs.length + 1 := by
  unfold putA
  split
  · rw [List.length_map]; omega
  · rw [List.length_append]; simp
theorem putA_keys (kvs : List (κ × β)) (k : κ) (v : β) : (putA kvs k v).map (·.1) = if k ∈ kvs.map (·.1) then kvs.map (·.1) else kvs.map (·.1) ++ [k] := by
  unfold putA
  split
  · rw [List.map_map]
    apply List.map_congr_left
    intro p _
    show (if p.1 = k then (p.1, v) else p).1 = p.1
    split <;> rfl
  · simp
theorem mem_putA_keys {kvs : List (κ × β)} {k k' : κ} {v : β} : k' ∈ (putA kvs k v).map (·.1) ↔ k' = k ∨ k' ∈ kvs.map (·.1) := by
  rw [putA_keys]
  split
  · rename_i h
    constructor
    · exact .inr
    · rintro (rfl | h2)
      · exact h
      · exact h2
  · rw [List.mem_append, List.mem_singleton, or_comm]
theorem nodup_putA {kvs : List (κ × β)} {k : κ} {v : β} (h : (kvs.map (·.1)).Nodup) : ((putA kvs k v).map (·.1)).Nodup := by
  rw [putA_keys]
  split
  · exact h
  · rename_i hk
    rw [List.nodup_append]
    refine ⟨h, by simp, fun a ha b hb => ?_⟩
    rw [List.mem_singleton] at hb
    subst hb
    exact fun e => hk (e ▸ ha)
theorem lookA_putA (k k' : κ) (v : β) : ∀ kvs : List (κ × β), lookA (putA kvs k v) k' = if k' = k then some v else lookA kvs k' := by
  intro kvs
  unfold putA
  split
  · rename_i hk
    induction kvs with
    | nil => simp at hk
    | cons p kvs ih =>
      by_cases hp : p.1 = k
      · by_cases h2 : k' = k
        · subst h2
          simp [lookA, List.find?_cons, hp]
        · rw [if_neg h2]
          have h3 : ¬ p.1 = k' := fun e => h2 (e.symm.trans hp)
          have h4 : ¬ k = k' := fun e => h2 e.symm
          have key : lookA (kvs.map fun p => if p.1 = k then (p.1, v) else p) k' = lookA kvs k' := by
            clear ih hk
            induction kvs with
            | nil => rfl
            | cons q kvs ih2 =>
              by_cases hq : q.1 = k
              · have : ¬ q.1 = k' := fun e => h2 (e.symm.trans hq)
                simp only [List.map_cons, hq, if_true, lookA, List.find?_cons, h4, decide_false, this]
                exact ih2
              · simp only [List.map_cons, hq, if_false, lookA, List.find?_cons]
                by_cases hq' : q.1 = k'
                · simp [hq']
                · simp only [hq', decide_false]
                  exact ih2
          simp only [List.map_cons, hp, if_true]
          unfold lookA at key ⊢
          rw [List.find?_cons, List.find?_cons]
          simp only [h4, h3, decide_false]
          exact key
      · have hk2 : k ∈ kvs.map (·.1) := by
          rw [List.map_cons, List.mem_cons] at hk
          rcases hk with e | e
          · exact absurd e.symm hp
          · exact e
        have ih := ih hk2
        simp only [List.map_cons, hp, if_false]
        unfold lookA at ih ⊢
        rw [List.find?_cons, List.find?_cons]
        by_cases hq : p.1 = k'
        · have : ¬ k' = k := fun e => hp (hq.trans e)
          simp [hq, this]
        · simp only [hq, decide_false]
          exact ih
  · rename_i hk
    unfold lookA
    rw [List.find?_append]
    by_cases h2 : k' = k
    · subst h2
      have : kvs.find? (fun p => decide (p.1 = k')) = none := by
        rw [List.find?_eq_none]
        intro p hp e
        exact hk (by simpa using ⟨p.2, by have := of_decide_eq_true e; rw [← this]; exact hp⟩)
      simp [this]
    · rw [if_neg h2]
      have h4 : ¬ k = k' := fun e => h2 e.symm
      simp [List.find?_cons, h4]
theorem lookA_some {kvs : List (κ × β)} {k : κ} {v : β} (h : lookA kvs k = some v) : (k, v) ∈ kvs := by
  unfold lookA at h
  cases hf : kvs.find? fun p => decide (p.1 = k) with
  | none => rw [hf] at h; cases h
  | some p =>
    rw [hf] at h
    have e : p.1 = k := by simpa using List.find?_some hf
    have m := List.mem_of_find?_eq_some hf
    cases h
    rw [← e]
    exact m
theorem lookA_isSome {kvs : List (κ × β)} {k : κ} (h : k ∈ kvs.map (·.1)) : ∃ v, lookA kvs k = some v := by
  obtain ⟨p, hp, rfl⟩ := List.mem_map.mp h
  unfold lookA
  cases hf : kvs.find? fun q => decide (q.1 = p.1) with
  | some q => exact ⟨q.2, rfl⟩
  | none => exact absurd (decide_eq_true rfl) (List.find?_eq_none.mp hf p hp)
theorem lookA_none {kvs : List (κ × β)} {k : κ} (h : k ∉ kvs.map (·.1)) : lookA kvs k = none := by
  cases e : lookA kvs k with
  | none => rfl
  | some v => exact absurd (List.mem_map.mpr ⟨_, lookA_some e, rfl⟩) h
theorem lookA_of_mem {kvs : List (κ × β)} {k : κ} {v : β} (hn : (kvs.map (·.1)).Nodup) (h : (k, v) ∈ kvs) : lookA kvs k = some v := by
  obtain ⟨w, hw⟩ := lookA_isSome (List.mem_map.mpr ⟨_, h, rfl⟩ : k ∈ kvs.map (·.1))
  have m := lookA_some hw
  rw [hw]
  congr 1
  clear hw
  induction kvs with
  | nil => cases h
  | cons p kvs ih =>
    rw [List.map_cons, List.nodup_cons] at hn
    rcases List.mem_cons.mp h with e1 | e1
    · rcases List.mem_cons.mp m with e2 | e2
      · rw [← e1] at e2; cases e2; rfl
      · subst e1; exact absurd (List.mem_map.mpr ⟨_, e2, rfl⟩) hn.1
    · rcases List.mem_cons.mp m with e2 | e2
      · subst e2; exact absurd (List.mem_map.mpr ⟨_, e1, rfl⟩) hn.1
      · exact ih hn.2 e1 e2
end
theorem keyG_int : KeyG PyData.int := fun a b => eqv_ii a b
theorem kvOf_dI {β : Type} (f : β → D) (kvs : List (Int × β)) : kvOf (.dict (dK PyData.int f kvs)) = some (false, dK PyData.int f kvs) := by
  cases kvs with
  | nil => rfl
  | cons p kvs => rfl
@[simp] theorem kvOf_nil : kvOf (.dict []) = some (false, []) := rfl
/-! ### sorting ints -/
theorem alike_iL (ns : List Int) : sortOk (iL ns) = true := by
  unfold sortOk
  rw [Bool.and_eq_true, Bool.and_eq_true, Bool.or_eq_true]
  refine ⟨List.all_eq_true.mpr fun d hd => ?_, List.all_eq_true.mpr fun d hd => List.all_eq_true.mpr fun e he => ?_, .inr (List.all_eq_true.mpr fun d hd => ?_)⟩
  · obtain ⟨i, _, rfl⟩ := List.mem_map.mp hd; simp [PyData.plain, PyData.depth]
  · obtain ⟨i, _, rfl⟩ := List.mem_map.mp hd; obtain ⟨j, _, rfl⟩ := List.mem_map.mp he; simp [PySem.W.alike]
  · obtain ⟨i, _, rfl⟩ := List.mem_map.mp hd; rfl
theorem sortDs_iL (ns : List Int) : sortDs (iL ns) = iL (sortI ns) := by
  have e : PySem.W.dataLe false (id : D → D) = fun a b => !PySem.W.dataLt b a := rfl
  have key : sortDs (iL ns) = iL (ns.mergeSort fun a b => decide (a ≤ b)) := by
    unfold sortDs iL
    rw [List.map_mergeSort]
    intro a _ b _
    have := congrFun (congrFun (PySem.W.dataLe_int (β := Int) id) a) b
    exact this.symm
  rw [key]
  congr 1
  refine ord_uniq ((List.mergeSort_perm ns _).trans (sortI_perm ns).symm) ?_ (sortI_ord ns)
  have := List.pairwise_mergeSort (le := fun a b : Int => decide (a ≤ b)) (fun a b c h1 h2 => by simp only [decide_eq_true_eq] at *; omega) (fun a b => by simp only [Bool.or_eq_true, decide_eq_true_eq]; omega) ns
  exact this.imp fun h => by simpa using h
theorem sortA_iL (ns : List Int) : sortA [.list (iL ns)] = .ok (.fr (.lst (iL (sortI ns)))) := by
  show (if sortOk (iL ns) = true then R.ok (RV.fr (.lst (sortDs (iL ns)))) else _) = _
  rw [if_pos (alike_iL ns), sortDs_iL]
theorem sortA_dI {β : Type} (f : β → D) (kvs : List (Int × β)) : sortA [.dict (dK PyData.int f kvs)] = .ok (.fr (.lst (iL (sortI (kvs.map (·.1)))))) := by
  unfold sortA
  simp only [kvOf_dI, dK_keys]
  show (if sortOk (iL (kvs.map (·.1))) = true then R.ok (RV.fr (.lst (sortDs (iL (kvs.map (·.1)))))) else _) = _
  rw [if_pos (alike_iL _), sortDs_iL]
end PI
set_option autoImplicit false
set_option Elab.async false
set_option linter.all false
set_option maxRecDepth 100000
set_option autoImplicit false
set_option maxHeartbeats 2000000
/-! Pi23: list(zip(a, b)). -/
namespace PI
open PySem PySem.Spec PyProof.Rows L2
open R (RD_bnd)
/-- what a zip's walk knows at step i -/
structure ZSt (b1 b2 : Bool) (z TI TO i1 i2 l1 l2 S : Addr) (xs ys : Array Value) (i : Nat) (h : Heap) : Prop where
  ti : IsPair h TI (.ref i1) (.ref i2)
  h1 : IsIt h b1 i1 l1 i
  h2 : IsIt h b2 i2 l2 i
  q1 : IsSq h b1 l1 xs
  q2 : IsSq h b2 l2 ys
  st : (IsZip h z TI TO .none ∧ ∃ a b, IsPair h TO a b) ∨ ∃ T f oT, IsZipHeld h z TI TO T f ∧ h.get? T = some oT ∧ T ≠ z ∧ T ≠ i1 ∧ T ≠ i2 ∧ T ≠ S
section
variable {prog : Program} {w : World} {A : Around} {E : Value → Shared → Prop} {s : Shared} {b1 b2 : Bool} {z TI TO i1 i2 l1 l2 S : Addr} {xs ys : Array Value}
theorem zipHeld_item {T : Addr} {f : Bool} {oT : Obj} {k1 k2 : Nat} {x y : Value} {Q : Value → Shared → Prop} (D : ZipApart z TI TO i1 i2 l1 l2)
    (hz : IsZipHeld s.heap z TI TO T f) (hT : s.heap.get? T = some oT) (hTI : IsPair s.heap TI (.ref i1) (.ref i2))
    (h1 : IsIt s.heap b1 i1 l1 k1) (h2 : IsIt s.heap b2 i2 l2 k2) (hl1 : IsSq s.heap b1 l1 xs) (hl2 : IsSq s.heap b2 l2 ys) (hx : xs[k1]? = some x) (hy : ys[k2]? = some y)
    (hQ : ∀ h', IsZipHeld h' z TI TO T true → IsIt h' b1 i1 l1 (k1 + 1) → IsIt h' b2 i2 l2 (k2 + 1) → IsPair h' s.heap.objs.size x y →
      (∀ c o, c ≠ z → c ≠ i1 → c ≠ i2 → s.heap.get? c = some o → h'.get? c = some o) → Q (.ref s.heap.objs.size) { s with heap := h' }) :
    wpAny (model prog w) A (Builtin.«zip.__next__» ⟨[.ref z], []⟩) (fun fin s' => ∃ v, fin = .done (.ret v) ∧ Q v s') E s := by
  show wpAny _ _ (field (.ref z) 2 >>= _) _ _ _
  refine wpAny_bind (wpAny_field hz rfl (x := .bool false) rfl ?_)
  show wpAny _ _ (field (.ref z) 3 >>= _) _ _ _
  refine wpAny_bind (wpAny_field hz rfl (x := .ref TI) rfl ?_)
  refine wpAny_bind (wpAny_seqItems hTI rfl ?_)
  show wpAny _ _ (Builtin.SmallTypes.ownedTupleIsFree (.ref z) >>= _) _ _ _
  refine wpAny_bind (wpAny_tupleHeld_zip hz hT fun ha hza hsa => ?_)
  simp only [Bool.false_eq_true, if_false]
  refine wpAny_bind ?_
  rw [← Array.forIn_toList]
  simp only [List.forIn_cons, List.forIn_nil]
  refine wpAny_bind (wpAny_bind (wpAny_holding ?_))
  show wpAny _ _ (Builtin.SmallTypes.nextOf (.ref i1) >>= _) _ _ _
  refine wpAny_bind (next_sq (s := { s with heap := ha }) (h1.ext hsa.extBut D.i1z) (hl1.ext hsa.extBut D.l1z) hx fun hb hib hsb => wpAny_pure ?_)
  refine wpAny_pure ?_
  refine wpAny_bind (wpAny_bind (wpAny_holding ?_))
  show wpAny _ _ (Builtin.SmallTypes.nextOf (.ref i2) >>= _) _ _ _
  refine wpAny_bind (next_sq (s := { s with heap := hb }) ((h2.ext hsa.extBut D.i2z).ext hsb.extBut D.i12.symm) ((hl2.ext hsa.extBut D.l2z).ext hsb.extBut D.l2i1) hy fun hc hic hsc => wpAny_pure ?_)
  refine wpAny_pure (wpAny_pure ?_)
  show wpAny _ _ (newTuple [x, y] >>= _) _ _ _
  refine wpAny_bind (wpAny_newTuple ?_)
  have hsz : hc.objs.size = s.heap.objs.size := by rw [hsc.1, hsb.1, hsa.1]
  have hzc : IsZipHeld hc z TI TO T true := hsc.extBut _ _ D.i2z.symm (hsb.extBut _ _ D.i1z.symm hza)
  have hk : ∀ c o, c ≠ z → c ≠ i1 → c ≠ i2 → s.heap.get? c = some o → hc.get? c = some o := fun c o c1 c2 c3 e => hsc.extBut _ _ c3 (hsb.extBut _ _ c2 (hsa.extBut _ _ c1 e))
  have h1c : IsIt hc b1 i1 l1 (k1 + 1) := hib.ext hsc.extBut D.i12
  refine wpAny_pure ⟨_, rfl, ?_⟩
  show Q (.ref hc.objs.size) _
  have hp : IsPair (hc.push { cls := .type "tuple", data := .seq #[x, y] }) hc.objs.size x y := Heap.get?_push_size _ rfl
  rw [hsz] at hp ⊢
  exact hQ _ (Heap.get?_push_of_some _ hzc) (h1c.at fun o e => Heap.get?_push_of_some _ e) (hic.at fun o e => Heap.get?_push_of_some _ e) hp fun c o c1 c2 c3 e => Heap.get?_push_of_some _ (hk c o c1 c2 c3 e)
theorem zipHeld_end {T : Addr} {f : Bool} {oT : Obj} {k1 k2 : Nat} {Q : Fin → Shared → Prop} (hh : A.handled = none) (D : ZipApart z TI TO i1 i2 l1 l2)
    (hz : IsZipHeld s.heap z TI TO T f) (hT : s.heap.get? T = some oT) (hTI : IsPair s.heap TI (.ref i1) (.ref i2))
    (h1 : IsIt s.heap b1 i1 l1 k1) (h2 : IsIt s.heap b2 i2 l2 k2) (hl1 : IsSq s.heap b1 l1 xs) (hl2 : IsSq s.heap b2 l2 ys) (hend : xs[k1]? = none ∨ ys[k2]? = none)
    (hE : ∀ h' e, (∀ c o, c ≠ z → c ≠ i1 → c ≠ i2 → s.heap.get? c = some o → h'.get? c = some o) → (∃ o, h'.get? e = some o ∧ o.cls = .type "StopIteration") → E (.ref e) { s with heap := h' }) :
    wpAny (model prog w) A (Builtin.«zip.__next__» ⟨[.ref z], []⟩) Q E s := by
  show wpAny _ _ (field (.ref z) 2 >>= _) _ _ _
  refine wpAny_bind (wpAny_field hz rfl (x := .bool false) rfl ?_)
  show wpAny _ _ (field (.ref z) 3 >>= _) _ _ _
  refine wpAny_bind (wpAny_field hz rfl (x := .ref TI) rfl ?_)
  refine wpAny_bind (wpAny_seqItems hTI rfl ?_)
  show wpAny _ _ (Builtin.SmallTypes.ownedTupleIsFree (.ref z) >>= _) _ _ _
  refine wpAny_bind (wpAny_tupleHeld_zip hz hT fun ha hza hsa => ?_)
  simp only [Bool.false_eq_true, if_false]
  refine wpAny_bind ?_
  rw [← Array.forIn_toList]
  simp only [List.forIn_cons, List.forIn_nil]
  refine wpAny_bind (wpAny_bind (wpAny_holding ?_))
  show wpAny _ _ (Builtin.SmallTypes.nextOf (.ref i1) >>= _) _ _ _
  cases hx : xs[k1]? with
  | none =>
    refine wpAny_bind (end_sq (s := { s with heap := ha }) hh (h1.ext hsa.extBut D.i1z) (hl1.ext hsa.extBut D.l1z) hx fun hb e hsb he => ?_)
    exact hE hb e (fun c o c1 c2 _ x => hsb _ _ c2 (hsa.extBut _ _ c1 x)) he
  | some x =>
    have hy : ys[k2]? = none := hend.resolve_left (by rw [hx]; simp)
    refine wpAny_bind (next_sq (s := { s with heap := ha }) (h1.ext hsa.extBut D.i1z) (hl1.ext hsa.extBut D.l1z) hx fun hb hib hsb => wpAny_pure ?_)
    refine wpAny_pure ?_
    refine wpAny_bind (wpAny_bind (wpAny_holding ?_))
    show wpAny _ _ (Builtin.SmallTypes.nextOf (.ref i2) >>= _) _ _ _
    refine wpAny_bind (end_sq (s := { s with heap := hb }) hh ((h2.ext hsa.extBut D.i2z).ext hsb.extBut D.i12.symm) ((hl2.ext hsa.extBut D.l2z).ext hsb.extBut D.l2i1) hy fun hc e hsc he => ?_)
    exact hE hc e (fun c o c1 c2 c3 x => hsc _ _ c3 (hsb.extBut _ _ c2 (hsa.extBut _ _ c1 x))) he
theorem zl_item {i : Nat} {x y : Value} {Q : Option Value → Shared → Prop} (D : ZipApart z TI TO i1 i2 l1 l2) (st : ZSt b1 b2 z TI TO i1 i2 l1 l2 S xs ys i s.heap) (hS : S < s.heap.objs.size) (hx : xs[i]? = some x) (hy : ys[i]? = some y)
    (hQ : ∀ h', ZSt b1 b2 z TI TO i1 i2 l1 l2 S xs ys (i + 1) h' → IsPair h' s.heap.objs.size x y → (∀ c o, c ≠ z → c ≠ TO → c ≠ i1 → c ≠ i2 → s.heap.get? c = some o → h'.get? c = some o) → Q (some (.ref s.heap.objs.size)) { s with heap := h' }) :
    wpAny (model prog w) A (pyNext (.ref z)) Q E s := by
  obtain ⟨hTI, h1, h2, q1, q2, st⟩ := st
  have n1 : s.heap.objs.size ≠ i1 := let ⟨_, e, _⟩ := h1.ob; Nat.ne_of_gt (Heap.lt_size e)
  have n2 : s.heap.objs.size ≠ i2 := let ⟨_, e, _⟩ := h2.ob; Nat.ne_of_gt (Heap.lt_size e)
  rcases st with ⟨hz, a, b, hTO⟩ | ⟨T, f, oT, hz, hT, r1, r2, r3, r4⟩
  · have hTy : s.TypeIs (.ref z) "zip" := ⟨_, hz, rfl⟩
    have nz : s.heap.objs.size ≠ z := Nat.ne_of_gt (Heap.lt_size hz)
    unfold pyNext
    refine wpAny_bind (wpAny_attempt (wpAny_callSpecial?_slot (name := Str.ofString "__next__") hTy F.slot_zip_next (wpAny_call_entry F.slot_zip_next hTy F.entry_zip_next
      (zipSq_item D hz hTI hTO h1 h2 q1 q2 hx hy fun h' z' TO' h1' h2' hp hk => wpAny_pure (hQ h' ?_ hp hk)) (F.args_zip_next_1 _))))
    exact ⟨hk _ _ D.TIz D.TITO D.TIi1 D.TIi2 hTI, h1', h2', q1.at fun o e => hk _ o D.l1z D.l1TO D.l1i1 D.l1i2 e, q2.at fun o e => hk _ o D.l2z D.l2TO D.l2i1 D.l2i2 e, .inr ⟨_, false, _, z', hp, nz, n1, n2, Nat.ne_of_gt hS⟩⟩
  · have hTy : s.TypeIs (.ref z) "zip" := ⟨_, hz, rfl⟩
    unfold pyNext
    refine wpAny_bind (wpAny_attempt (wpAny_callSpecial?_slot (name := Str.ofString "__next__") hTy F.slot_zip_next (wpAny_call_entry F.slot_zip_next hTy F.entry_zip_next
      (zipHeld_item D hz hT hTI h1 h2 q1 q2 hx hy fun h' z' h1' h2' hp hk => wpAny_pure (hQ h' ?_ hp fun c o c1 _ c3 c4 e => hk c o c1 c3 c4 e)) (F.args_zip_next_1 _))))
    exact ⟨hk _ _ D.TIz D.TIi1 D.TIi2 hTI, h1', h2', q1.at fun o e => hk _ o D.l1z D.l1i1 D.l1i2 e, q2.at fun o e => hk _ o D.l2z D.l2i1 D.l2i2 e, .inr ⟨T, true, oT, z', hk _ _ r1 r2 r3 hT, r1, r2, r3, r4⟩⟩
theorem zl_done {i : Nat} {Q : Option Value → Shared → Prop} (hh : A.handled = none) (D : ZipApart z TI TO i1 i2 l1 l2) (st : ZSt b1 b2 z TI TO i1 i2 l1 l2 S xs ys i s.heap) (hend : xs[i]? = none ∨ ys[i]? = none)
    (hQ : ∀ h', (∀ c o, c ≠ z → c ≠ TO → c ≠ i1 → c ≠ i2 → s.heap.get? c = some o → h'.get? c = some o) → Q none { s with heap := h' }) :
    wpAny (model prog w) A (pyNext (.ref z)) Q E s := by
  obtain ⟨hTI, h1, h2, q1, q2, st⟩ := st
  rcases st with ⟨hz, a, b, hTO⟩ | ⟨T, f, oT, hz, hT, r1, r2, r3, r4⟩
  · have hTy : s.TypeIs (.ref z) "zip" := ⟨_, hz, rfl⟩
    unfold pyNext
    refine wpAny_bind (wpAny_attempt (wpAny_callSpecial?_slot (name := Str.ofString "__next__") hTy F.slot_zip_next (wpAny_call_entry F.slot_zip_next hTy F.entry_zip_next
      (zipSq_end hh D hz hTI hTO h1 h2 q1 q2 hend fun h' e hk he => ?_) (F.args_zip_next_1 _))))
    obtain ⟨o, ho, hc⟩ := he
    refine wpAny_bind (wpAny_isInstance (T := "StopIteration") (b := true) ⟨o, ho, hc⟩ isSubtype_stop ?_)
    exact wpAny_pure (hQ _ hk)
  · have hTy : s.TypeIs (.ref z) "zip" := ⟨_, hz, rfl⟩
    unfold pyNext
    refine wpAny_bind (wpAny_attempt (wpAny_callSpecial?_slot (name := Str.ofString "__next__") hTy F.slot_zip_next (wpAny_call_entry F.slot_zip_next hTy F.entry_zip_next
      (zipHeld_end hh D hz hT hTI h1 h2 q1 q2 hend fun h' e hk he => ?_) (F.args_zip_next_1 _))))
    obtain ⟨o, ho, hc⟩ := he
    refine wpAny_bind (wpAny_isInstance (T := "StopIteration") (b := true) ⟨o, ho, hc⟩ isSubtype_stop ?_)
    exact wpAny_pure (hQ _ fun c o c1 _ c3 c4 e => hk c o c1 c3 c4 e)
theorem ZSt.keep {i : Nat} {h h' : Heap} (D : ZipApart z TI TO i1 i2 l1 l2) (st : ZSt b1 b2 z TI TO i1 i2 l1 l2 S xs ys i h) (n : S ≠ z ∧ S ≠ TI ∧ S ≠ TO ∧ S ≠ i1 ∧ S ≠ i2 ∧ S ≠ l1 ∧ S ≠ l2) (k : ∀ c o, c ≠ S → h.get? c = some o → h'.get? c = some o) : ZSt b1 b2 z TI TO i1 i2 l1 l2 S xs ys i h' := by
  obtain ⟨n1, n2, n3, n4, n5, n6, n7⟩ := n
  obtain ⟨hTI, h1, h2, q1, q2, st⟩ := st
  refine ⟨k _ _ n2.symm hTI, h1.at fun o e => k _ o n4.symm e, h2.at fun o e => k _ o n5.symm e, q1.at fun o e => k _ o n6.symm e, q2.at fun o e => k _ o n7.symm e, ?_⟩
  rcases st with ⟨hz, a, b, hTO⟩ | ⟨T, f, oT, hz, hT, r1, r2, r3, r4⟩
  · exact .inl ⟨k _ _ n1.symm hz, a, b, k _ _ n3.symm hTO⟩
  · exact .inr ⟨T, f, oT, k _ _ n1.symm hz, k _ _ r4 hT, r1, r2, r3, r4⟩
end
/-- the pairs that were given out -/
structure ZG (xs ys : Array Value) (lo : Addr) (h : Heap) (as : List Addr) : Prop where
  rise : as.Pairwise (· < ·)
  above : ∀ a ∈ as, lo < a
  pairs : ∀ (j : Nat) (a : Addr), as[j]? = some a → ∃ x y, xs[j]? = some x ∧ ys[j]? = some y ∧ IsPair h a x y
theorem ZG.there {xs ys : Array Value} {lo : Addr} {h : Heap} {as : List Addr} (g : ZG xs ys lo h as) {a : Addr} (ha : a ∈ as) : a < h.objs.size := by
  obtain ⟨j, hj⟩ := List.mem_iff_getElem?.mp ha
  obtain ⟨_, _, _, _, e⟩ := g.pairs j a hj
  exact Heap.lt_size e
section
variable {prog : Program} {w : World} {A : Around} {s : Shared} {R : Result → Shared → Prop} {b1 b2 : Bool} {z TI TO i1 i2 l1 l2 S : Addr} {xs ys : Array Value}
theorem zl_loop (hh : A.handled = none) (D : ZipApart z TI TO i1 i2 l1 l2) (lt : z < S ∧ TI < S ∧ TO < S ∧ i1 < S ∧ i2 < S ∧ l1 < S ∧ l2 < S) (hn : min xs.size ys.size ≤ sizeLine) (res : Value) {h₁ : Heap}
    (hR : ∀ h' tk acc c as, (∀ b o, b ≠ S → b ≠ z → b ≠ TO → b ≠ i1 → b ≠ i2 → h₁.get? b = some o → h'.get? b = some o) → h'.get? S = some { cls := .type "list", dict := none, data := .seq acc c, slots := #[] } → as.length = min xs.size ys.size → ZG xs ys S h' as →
      acc.toList = as.map Value.ref → R (.ok (.ret res)) { s with heap := h', toks := tk }) :
    ∀ (k i : Nat) (h : Heap) (tk c : Nat) (acc : Array Value) (as : List Addr), min xs.size ys.size - i = k → i ≤ min xs.size ys.size → ZSt b1 b2 z TI TO i1 i2 l1 l2 S xs ys i h → (∀ b o, b ≠ S → b ≠ z → b ≠ TO → b ≠ i1 → b ≠ i2 → h₁.get? b = some o → h.get? b = some o) →
      h.get? S = some { cls := .type "list", dict := none, data := .seq acc c, slots := #[] } → acc.toList = as.map Value.ref → as.length = i → ZG xs ys S h as →
      codeAny (model prog w) A (.builtin "list.extend.loop" ⟨[.ref S, .ref z, res], []⟩) R { s with heap := h, toks := tk } := by
  obtain ⟨t1, t2, t3, t4, t5, t6, t7⟩ := lt
  have nS : S ≠ z ∧ S ≠ TI ∧ S ≠ TO ∧ S ≠ i1 ∧ S ≠ i2 ∧ S ≠ l1 ∧ S ≠ l2 := ⟨Nat.ne_of_gt t1, Nat.ne_of_gt t2, Nat.ne_of_gt t3, Nat.ne_of_gt t4, Nat.ne_of_gt t5, Nat.ne_of_gt t6, Nat.ne_of_gt t7⟩
  have off : ∀ {a : Addr}, S < a → a ≠ z ∧ a ≠ TO ∧ a ≠ i1 ∧ a ≠ i2 := fun {a} h => ⟨Nat.ne_of_gt (Nat.lt_trans t1 h), Nat.ne_of_gt (Nat.lt_trans t3 h), Nat.ne_of_gt (Nat.lt_trans t4 h), Nat.ne_of_gt (Nat.lt_trans t5 h)⟩
  intro k
  induction k with
  | zero =>
    intro i h tk c acc as hk hi hst hkeep hS hacc hal hG
    have hin : i = min xs.size ys.size := by omega
    have hend : xs[i]? = none ∨ ys[i]? = none := by
      rcases Nat.le_total xs.size ys.size with h | h
      · exact .inl (Array.getElem?_eq_none (by rw [hin, Nat.min_eq_left h]; exact Nat.le_refl _))
      · exact .inr (Array.getElem?_eq_none (by rw [hin, Nat.min_eq_right h]; exact Nat.le_refl _))
    refine codeAny_builtin PySem.F.entry_extend_loop ?_
    rw [Around.under_plainId PySem.F.plain_extend_loop _]
    show wpAny _ A.in1 (pyNext (.ref z) >>= _) _ _ _
    refine wpAny_bind (zl_done (s := { s with heap := h, toks := tk }) (A := A.in1) hh D hst hend fun h' he => ?_)
    refine wpAny_pure (hR h' tk acc c as (fun b o h1 h2 h3 h4 h5 e => he b o h2 h3 h4 h5 (hkeep b o h1 h2 h3 h4 h5 e)) (he S _ nS.1 nS.2.2.1 nS.2.2.2.1 nS.2.2.2.2.1 hS) (by omega) ⟨hG.rise, hG.above, fun j a hj => ?_⟩ hacc)
    obtain ⟨x, y, e1, e2, e3⟩ := hG.pairs j a hj
    obtain ⟨o1, o2, o3, o4⟩ := off (hG.above a (List.mem_of_getElem? hj))
    exact ⟨x, y, e1, e2, he a _ o1 o2 o3 o4 e3⟩
  | succ k ih =>
    intro i h tk c acc as hk hi hst hkeep hS hacc hal hG
    have hlt : i < min xs.size ys.size := by omega
    have hx : xs[i]? = some xs[i] := Array.getElem?_eq_getElem (by omega)
    have hy : ys[i]? = some ys[i] := Array.getElem?_eq_getElem (by omega)
    have hsz : acc.size = i := by rw [← Array.length_toList, hacc, List.length_map, hal]
    refine codeAny_builtin PySem.F.entry_extend_loop ?_
    rw [Around.under_plainId PySem.F.plain_extend_loop _]
    show wpAny _ A.in1 (pyNext (.ref z) >>= _) _ _ _
    have hSl : S < h.objs.size := Heap.lt_size hS
    refine wpAny_bind (zl_item (s := { s with heap := h, toks := tk }) D hst hSl hx hy fun h' hst' ht hkp => ?_)
    dsimp only at ht hkp ⊢
    have hS' := hkp S _ nS.1 nS.2.2.1 nS.2.2.2.1 nS.2.2.2.2.1 hS
    have up : ∀ b o, b ≠ S → h'.get? b = some o → (h'.update S (Obj.mapSeq (·.push (Value.ref h.objs.size)))).get? b = some o := fun b o hb e => (Heap.get?_update_other _ _ (Ne.symm hb)).trans e
    show wpAny _ A.in1 (updateSeq S (·.push (Value.ref h.objs.size)) >>= _) _ _ _
    refine wpAny_bind ?_
    refine wpAny_updateSeq hS' rfl (wpAny_pure ⟨plainId_quiet PySem.F.plain_extend_loop _, ih (i + 1) _ tk _ (acc.push (Value.ref h.objs.size)) (as ++ [h.objs.size]) (by omega) hlt (hst'.keep D nS up)
      (fun b o g1 g2 g3 g4 g5 e => up b o g1 (hkp b o g2 g3 g4 g5 (hkeep b o g1 g2 g3 g4 g5 e))) (Heap.get?_update_self _ hS' rfl) (by rw [Array.toList_push, hacc, List.map_append]; rfl) (by rw [List.length_append, hal]; rfl) ⟨?_, ?_, ?_⟩⟩) (by rw [hsz]; omega) (by show (acc.push (Value.ref h.objs.size)).size ≤ sizeLine + 1; rw [Array.size_push, hsz]; omega)
    · refine List.pairwise_append.mpr ⟨hG.rise, List.pairwise_singleton _ _, fun a ha b hb => ?_⟩
      rw [List.mem_singleton.mp hb]
      exact hG.there ha
    · intro a ha
      rcases List.mem_append.mp ha with ha | ha
      · exact hG.above a ha
      · rw [List.mem_singleton.mp ha]; exact hSl
    · intro j b hj
      rcases Nat.lt_trichotomy j as.length with g1 | g1 | g1
      · rw [List.getElem?_append_left g1] at hj
        obtain ⟨x, y, e1, e2, e3⟩ := hG.pairs j b hj
        have hb := hG.above b (List.mem_of_getElem? hj)
        obtain ⟨o1, o2, o3, o4⟩ := off hb
        exact ⟨x, y, e1, e2, up b _ (Nat.ne_of_gt hb) (hkp b _ o1 o2 o3 o4 e3)⟩
      · subst g1
        have hb : h.objs.size = b := by simpa using hj
        subst hb
        subst hal
        exact ⟨_, _, hx, hy, up _ _ (Nat.ne_of_gt hSl) ht⟩
      · have hnone : (as ++ [h.objs.size])[j]? = none := List.getElem?_eq_none (by rw [List.length_append, List.length_singleton]; omega)
        rw [hnone] at hj; cases hj
theorem zip_no_len : typeLookup (.type "zip") "__len__" = pure none := am_miss_of_fast (by decide +kernel)
theorem zip_no_hint : typeLookup (.type "zip") "__length_hint__" = pure none := am_miss_of_fast (by decide +kernel)
theorem zl_hint {E : Value → Shared → Prop} {r : Addr} (hT : s.TypeIs (.ref r) "zip") {Q : Bool → Shared → Prop} (h : Q true s) : wpAny (model prog w) A (Builtin.List.listLengthHint (.ref r)) Q E s := by
  unfold Builtin.List.listLengthHint
  refine wpAny_bind (wpAny_specialOf hT zip_no_len ?_)
  refine wpAny_ite_split (fun hab => absurd hab (by decide)) (fun _ => ?_)
  refine wpAny_ite_split (fun hab => absurd hab (by decide)) (fun _ => ?_)
  exact wpAny_bind (wpAny_specialOf hT zip_no_hint (wpAny_pure h))
end
section
variable {prog : Program} {w : World} {A : Around} {E : Value → Shared → Prop} {s : Shared} {b1 b2 : Bool} {z TI TO i1 i2 l1 l2 S : Addr} {xs ys : Array Value}
theorem zl_extend {R : Result → Shared → Prop} (hh : A.handled = none) (D : ZipApart z TI TO i1 i2 l1 l2) (lt : z < S ∧ TI < S ∧ TO < S ∧ i1 < S ∧ i2 < S ∧ l1 < S ∧ l2 < S) (hn : min xs.size ys.size ≤ sizeLine)
    (hz : IsZip s.heap z TI TO .none) (st : ZSt b1 b2 z TI TO i1 i2 l1 l2 S xs ys 0 s.heap) (res : Value) (c₀ : Nat) (hS : s.heap.get? S = some { cls := .type "list", data := .seq #[] c₀ })
    (hR : ∀ h' tk acc c as, (∀ b o, b ≠ S → b ≠ z → b ≠ TO → b ≠ i1 → b ≠ i2 → s.heap.get? b = some o → h'.get? b = some o) → h'.get? S = some { cls := .type "list", dict := none, data := .seq acc c, slots := #[] } → as.length = min xs.size ys.size → ZG xs ys S h' as →
      acc.toList = as.map Value.ref → R (.ok (.ret res)) { s with heap := h', toks := tk }) :
    wpAny (model prog w) A.in1 (Builtin.List.listExtendWith (.ref S) (.ref z) res)
      (fun fin s' => match fin with | .done f => R (.ok f) s' | .again c' => c'.quiet = true ∧ codeAny (model prog w) A c' R s') (fun e s' => R (.error e) s') s := by
  obtain ⟨t1, t2, t3, t4, t5, t6, t7⟩ := id lt
  have nS : S ≠ z ∧ S ≠ TI ∧ S ≠ TO ∧ S ≠ i1 ∧ S ≠ i2 ∧ S ≠ l1 ∧ S ≠ l2 := ⟨Nat.ne_of_gt t1, Nat.ne_of_gt t2, Nat.ne_of_gt t3, Nat.ne_of_gt t4, Nat.ne_of_gt t5, Nat.ne_of_gt t6, Nat.ne_of_gt t7⟩
  have hT : s.TypeIs (.ref z) "zip" := ⟨_, hz, rfl⟩
  have key : ∀ (h : Heap) (c₁ tk : Nat), (∀ b o, b ≠ S → s.heap.get? b = some o → h.get? b = some o) →
      h.get? S = some { cls := .type "list", data := .seq #[] c₁ } → codeAny (model prog w) A (.builtin "list.extend.loop" ⟨[.ref S, .ref z, res], []⟩) R { s with heap := h, toks := tk } := by
    intro h c₁ tk hk hS₁
    refine zl_loop (s := s) (h₁ := s.heap) hh D lt hn res (fun h' tk' acc c as hk' hS' hl hG hacc => hR h' tk' acc c as hk' hS' hl hG hacc)
      (min xs.size ys.size) 0 h tk c₁ #[] [] (Nat.sub_zero _) (Nat.zero_le _) (st.keep D nS hk) (fun b o g1 _ _ _ _ e => hk b o g1 e) hS₁ rfl rfl
      ⟨List.Pairwise.nil, (fun _ ha => nomatch ha), (fun j a hj => by simp at hj)⟩
  unfold Builtin.List.listExtendWith
  refine wpAny_bind (wpAny_typeOf (T := "zip") hT ?_)
  have e1 : Builtin.List.listSameRef (.ref S) (.ref z) = false := by simp [Builtin.List.listSameRef, nS.1]
  have e2 : (Value.type "zip" == Value.type "list") = false := by decide
  have e3 : (Value.type "zip" == Value.type "tuple") = false := by decide
  simp only [e1, e2, e3, Bool.or_false, Bool.false_eq_true, if_false]
  refine wpAny_bind (wpAny_pyIter_zip hz ?_)
  refine wpAny_bind (wpAny_holding (zl_hint hT ?_))
  refine wpAny_ite_split (fun _ => ?_) (fun _ => wpAny_pure ⟨plainId_quiet PySem.F.plain_extend_loop _, key _ c₀ _ (fun b o _ e => e) hS⟩)
  refine wpAny_bind (wpAny_rule ?_)
  refine wpAny_bind ?_
  show wpAny _ _ (updateSeq S (·.push .none) >>= fun _ => updateSeq S (·.pop)) _ _ _
  refine wpAny_bind (wpAny_updateSeq hS rfl ?_)
  have hS₂ := Heap.get?_update_self (Obj.mapSeq (·.push Value.none)) hS rfl
  refine wpAny_updateSeq (hz := by seq_fits) hS₂ rfl ?_
  have hS₃ := Heap.get?_update_self (Obj.mapSeq (·.pop)) hS₂ rfl
  refine wpAny_pure ⟨plainId_quiet PySem.F.plain_extend_loop _, key _ _ _ (fun b o hb e => ?_) hS₃⟩
  exact (Heap.get?_update_other _ _ (Ne.symm hb)).trans ((Heap.get?_update_other _ _ (Ne.symm hb)).trans e)
theorem zl_init {R : Result → Shared → Prop} (hh : A.handled = none) (D : ZipApart z TI TO i1 i2 l1 l2) (lt : z < S ∧ TI < S ∧ TO < S ∧ i1 < S ∧ i2 < S ∧ l1 < S ∧ l2 < S) (hn : min xs.size ys.size ≤ sizeLine)
    (hz : IsZip s.heap z TI TO .none) (st : ZSt b1 b2 z TI TO i1 i2 l1 l2 S xs ys 0 s.heap) (hS : s.heap.get? S = some { cls := .type "list", data := .seq #[] })
    (hR : ∀ h' tk acc c as, (∀ b o, b ≠ S → b ≠ z → b ≠ TO → b ≠ i1 → b ≠ i2 → s.heap.get? b = some o → h'.get? b = some o) → h'.get? S = some { cls := .type "list", dict := none, data := .seq acc c, slots := #[] } → as.length = min xs.size ys.size → ZG xs ys S h' as →
      acc.toList = as.map Value.ref → R (.ok (.ret .none)) { s with heap := h', toks := tk }) :
    wpAny (model prog w) A.in1 (Builtin.«list.__init__» ⟨[.ref S, .ref z], []⟩)
      (fun fin s' => match fin with | .done f => R (.ok f) s' | .again c' => c'.quiet = true ∧ codeAny (model prog w) A c' R s') (fun e s' => R (.error e) s') s := by
  obtain ⟨t1, t2, t3, t4, t5, t6, t7⟩ := id lt
  have nS : S ≠ z ∧ S ≠ TI ∧ S ≠ TO ∧ S ≠ i1 ∧ S ≠ i2 ∧ S ≠ l1 ∧ S ≠ l2 := ⟨Nat.ne_of_gt t1, Nat.ne_of_gt t2, Nat.ne_of_gt t3, Nat.ne_of_gt t4, Nat.ne_of_gt t5, Nat.ne_of_gt t6, Nat.ne_of_gt t7⟩
  show wpAny _ _ (do let old ← Builtin.List.listItems (.ref S); Builtin.List.listUpdate (.ref S) (fun _ => #[]); letGo old.toList.reverse; Builtin.List.listExtendWith (.ref S) (.ref z) .none) _ _ s
  refine wpAny_bind ?_
  unfold Builtin.List.listItems
  refine wpAny_bind (wpAny_seqItems hS rfl (wpAny_pure ?_))
  show wpAny _ _ (updateSeq S (fun _ => #[]) >>= fun _ => letGo (#[] : Array Value).toList.reverse >>= fun _ => Builtin.List.listExtendWith (.ref S) (.ref z) .none) _ _ s
  refine wpAny_bind (wpAny_updateSeq hS rfl ?_)
  have hS₂ := Heap.get?_update_self (Obj.mapSeq (fun _ => (#[] : Array Value))) hS rfl
  have oth : ∀ b o, b ≠ S → s.heap.get? b = some o → (s.heap.update S (Obj.mapSeq (fun _ => (#[] : Array Value)))).get? b = some o :=
    fun b o hb e => (Heap.get?_update_other _ _ (Ne.symm hb)).trans e
  refine wpAny_bind (wpAny_letGo ?_)
  refine zl_extend hh D lt hn (oth _ _ nS.1.symm hz) (st.keep D nS oth) .none _ hS₂ (fun h' tk acc c as hk hS' hl hG hacc => ?_)
  exact hR h' tk acc c as (fun b o g1 g2 g3 g4 g5 e => hk b o g1 g2 g3 g4 g5 (oth b o g1 e)) hS' hl hG hacc
theorem zl_call {Q : Value → Shared → Prop} (hh : A.handled = none) (D : ZipApart z TI TO i1 i2 l1 l2) (lt : z < s.heap.objs.size ∧ TI < s.heap.objs.size ∧ TO < s.heap.objs.size ∧ i1 < s.heap.objs.size ∧ i2 < s.heap.objs.size ∧ l1 < s.heap.objs.size ∧ l2 < s.heap.objs.size) (hn : min xs.size ys.size ≤ sizeLine)
    (hz : IsZip s.heap z TI TO .none) (st : ZSt b1 b2 z TI TO i1 i2 l1 l2 s.heap.objs.size xs ys 0 s.heap)
    (hQ : ∀ h' tk acc c as, (∀ b o, b ≠ z → b ≠ TO → b ≠ i1 → b ≠ i2 → s.heap.get? b = some o → h'.get? b = some o) → h'.get? s.heap.objs.size = some { cls := .type "list", dict := none, data := .seq acc c, slots := #[] } → as.length = min xs.size ys.size → ZG xs ys s.heap.objs.size h' as →
      acc.toList = as.map Value.ref → Q (.ref s.heap.objs.size) { s with heap := h', toks := tk }) :
    wpAny (model prog w) A (call (.type "list") [.ref z]) Q E s := by
  refine callType_codes (Q₁ := fun obj s₁ => obj = .ref s.heap.objs.size ∧ s₁ = { s with heap := s.heap.push { cls := .type "list", data := .seq #[] } }) PySem.F.called_list (PySem.F.typeCall_list_1 _) PySem.F.entry_list_init
    (code_list_new _ ⟨rfl, rfl⟩) fun obj s₁ h₁ => ?_
  obtain ⟨rfl, rfl⟩ := h₁
  have hS : (s.heap.push { cls := .type "list", data := .seq #[] }).get? s.heap.objs.size = some { cls := .type "list", data := .seq #[] } := Heap.get?_push_size _ rfl
  have nS : s.heap.objs.size ≠ z ∧ s.heap.objs.size ≠ TI ∧ s.heap.objs.size ≠ TO ∧ s.heap.objs.size ≠ i1 ∧ s.heap.objs.size ≠ i2 ∧ s.heap.objs.size ≠ l1 ∧ s.heap.objs.size ≠ l2 := by
    obtain ⟨t1, t2, t3, t4, t5, t6, t7⟩ := lt
    exact ⟨Nat.ne_of_gt t1, Nat.ne_of_gt t2, Nat.ne_of_gt t3, Nat.ne_of_gt t4, Nat.ne_of_gt t5, Nat.ne_of_gt t6, Nat.ne_of_gt t7⟩
  refine ⟨⟨_, hS, rfl⟩, PySem.F.args_list_init_2 _ _, zl_init (A := A.in1) hh D lt hn (Heap.get?_push_of_some _ hz) (st.keep D nS fun c o _ e => Heap.get?_push_of_some _ e) hS (fun h' tk acc c as hk hS' hl hG hacc => ?_)⟩
  exact ⟨rfl, hQ h' tk acc c as (fun b o g2 g3 g4 g5 e => hk b o (Nat.ne_of_lt (Heap.lt_size e)) g2 g3 g4 g5 (Heap.get?_push_of_some _ e)) hS' hl hG hacc⟩
end
end PI
set_option autoImplicit false
set_option Elab.async false
set_option linter.all false
set_option maxRecDepth 100000
set_option autoImplicit false
set_option maxHeartbeats 2000000
/-! Pi24: list(zip(a, b)) as an expression. -/
namespace PI
open PySem PySem.Spec PyProof.Rows L2
open R (RD_bnd)
/-- pairs tracked at their addresses -/
def putP : Hp → List Addr → List (V × V) → Hp
  | H, a :: as, p :: ps => putP (upd H a (.tup [p.1, p.2])) as ps
  | H, _, _ => H
theorem putP_off {b : Addr} : ∀ (as : List Addr) (ps : List (V × V)) (H : Hp), b ∉ as → putP H as ps b = H b
  | [], _, _, _ => rfl
  | _ :: _, [], _, _ => rfl
  | a :: as, p :: ps, H, h => by
    show putP (upd H a (.tup [p.1, p.2])) as ps b = H b
    rw [putP_off as ps _ (fun z => h (List.mem_cons_of_mem _ z)), upd_ne (fun z => h (by rw [z]; exact List.mem_cons_self))]
theorem putP_at : ∀ (as : List Addr) (ps : List (V × V)) (H : Hp), as.length = ps.length → as.Nodup → ∀ (j : Nat) (a : Addr) (p : V × V), as[j]? = some a → ps[j]? = some p → putP H as ps a = some (.tup [p.1, p.2])
  | [], _, _, _, _, j, a, p, e, _ => by simp at e
  | _ :: _, [], _, h, _, _, _, _, _, _ => by cases h
  | a :: as, p :: ps, H, h, hn, j, b, q, e1, e2 => by
    have hn' := List.nodup_cons.mp hn
    show putP (upd H a (.tup [p.1, p.2])) as ps b = some (.tup [q.1, q.2])
    cases j with
    | zero =>
      have e1 : a = b := by simpa using e1
      have e2 : p = q := by simpa using e2
      subst e1 e2
      rw [putP_off as ps _ hn'.1, upd_same]
    | succ j => exact putP_at as ps _ (Nat.succ.inj h) hn'.2 j b q (by simpa using e1) (by simpa using e2)
def fListZip (a b : FE) : FE := fun env => (fArgs [a, b] env).bnd fun z => match z.1 with
  | [d, e] => (sqOf d).bnd fun ds => (sqOf e).bnd fun es => .ok (.fr (.lst (zipD ds es)), z.2)
  | _ => .bad
section
variable (env : PI.Env)
@[simp ↓] theorem v_listZip (a b : FE) : fListZip a b env = (fArgs [a, b] env).bnd fun z => (match z.1 with
  | [d, e] => (sqOf d).bnd fun ds => (sqOf e).bnd fun es => .ok (.fr (.lst (zipD ds es)), z.2)
  | _ => .bad) := rfl
end
section
variable [Tables] {X : Cx} {E : XE}
omit [Tables] in
theorem pairs_laid {pins : List (Addr × Obj)} {σ : L2.St} {H : Hp} {s : Shared} {h' : Heap} {tk : Nat} {ps : List (V × V)} {xs ys acc : Array Value} {c : Nat} {as : List Addr} {S : Addr} (I : Inv X pins σ H s) (hz : ps.length ≤ sizeLine)
    (hp : ∀ (j : Nat) (p : V × V), ps[j]? = some p → ∃ x y, xs[j]? = some x ∧ ys[j]? = some y ∧ RelV p.1 x ∧ RelV p.2 y) (hlo : s.heap.objs.size ≤ S)
    (hk : ∀ b o, s.heap.get? b = some o → h'.get? b = some o) (hS : h'.get? S = some { cls := .type "list", dict := none, data := .seq acc c, slots := #[] }) (hl : as.length = ps.length) (hG : ZG xs ys S h' as) (hacc : acc.toList = as.map Value.ref) :
    H S = none ∧ (∀ t ∈ as, H t = none) ∧ S ∉ as ∧ as.Nodup ∧ Inv X pins σ (putP (upd H S (.lst (as.map V.ref))) as ps) { s with heap := h', toks := tk } := by
  have hSn : S ∉ as := fun z => Nat.lt_irrefl _ (hG.above _ z)
  have nd : as.Nodup := List.Pairwise.imp (fun {a b} (h : a < b) => Nat.ne_of_lt h) hG.rise
  have new : ∀ t ∈ as, H t = none := fun t ht => I.hok.fresh (Nat.le_of_lt (Nat.lt_of_le_of_lt hlo (hG.above t ht)))
  have newS : H S = none := I.hok.fresh hlo
  have off : ∀ b, b ∉ as → b ≠ S → putP (upd H S (.lst (as.map V.ref))) as ps b = H b := fun b h1 h2 => by rw [putP_off as ps _ h1, upd_ne h2]
  have low : ∀ b o, s.heap.get? b = some o → b ∉ as ∧ b ≠ S := fun b o e => ⟨fun z => absurd (Heap.lt_size e) (Nat.not_lt.mpr (Nat.le_of_lt (Nat.lt_of_le_of_lt hlo (hG.above b z)))), Nat.ne_of_lt (Nat.lt_of_lt_of_le (Heap.lt_size e) hlo)⟩
  have kp : ∀ b u, H b = some u → (putP (upd H S (.lst (as.map V.ref))) as ps) b = some u := fun b u e => by
    rw [off b (fun z => by rw [new b z] at e; cases e) (fun z => by rw [z, newS] at e; cases e)]
    exact e
  have eS : putP (upd H S (.lst (as.map V.ref))) as ps S = some (.lst (as.map V.ref)) := by rw [putP_off as ps _ hSn, upd_same]
  refine ⟨newS, new, hSn, nd, ?_⟩
  refine I.call' (ch := []) rfl ⟨fun b o q _ _ _ => hk b o q, fun b o q _ _ _ => ⟨o.slots, hk b o q⟩, fun b o q n _ => ?_, fun b o q _ => ⟨o, hk b o q⟩, fun b xs q => kp b _ q, fun b o u q => kp b _ q, fun b ps q => ⟨#[], by rw [kp b _ q]; simp⟩⟩ (fun b u q => ?_) I.bare fun b z => by simp at z
  · obtain ⟨z1, z2⟩ := low b o q
    rw [off b z1 z2]
    exact n
  · by_cases hb : b ∈ as
    · obtain ⟨j, hj⟩ := List.mem_iff_getElem?.mp hb
      have hjl : j < ps.length := by rw [← hl]; exact (List.getElem?_eq_some_iff.mp hj).1
      have hpj : ps[j]? = some ps[j] := List.getElem?_eq_getElem hjl
      rw [putP_at as ps _ hl nd j b _ hj hpj] at q
      cases q
      obtain ⟨x, y, f1, f2, f3⟩ := hG.pairs j b hj
      obtain ⟨x', y', g1, g2, g3, g4⟩ := hp j _ hpj
      rw [f1] at g1; cases g1
      rw [f2] at g2; cases g2
      exact ⟨by show 2 ≤ sizeLine; decide, [x, y], .cons g3 (.cons g4 .nil), ⟨_, f3, rfl, _, rfl⟩⟩
    · by_cases hb2 : b = S
      · rw [hb2] at q ⊢
        rw [eS] at q
        cases q
        refine ⟨by rw [List.length_map]; omega, acc.toList, c, by rw [hacc]; exact vals_refs as, ?_⟩
        rw [Array.toArray_toList]
        exact hS
      · rw [off b hb hb2] at q
        exact (I.hok b u q).stay (fun d v _ y => hk d v y) (fun d y => kp d _ y) fun d xs y => kp d _ y
/-- the new pairs are shared -/
theorem adoptPairs {S : Fm} {σ : St} {env : PI.Env} : ∀ {as : List Addr} {xs ys : List V} {ds es : List D} {Hs H : Hp}, Ok S Hs H σ env → DqAll Hs xs ds → DqAll Hs ys es → as.length = (xs.zip ys).length → as.Nodup → (∀ t ∈ as, H t = none) →
    ∃ Hs', Same Hs Hs' ∧ Ok S Hs' (putP H as (xs.zip ys)) σ env ∧ DqAll Hs' (as.map V.ref) (zipD ds es) ∧ ∀ b, b ∉ as → Hs' b = Hs b
  | [], xs, ys, ds, es, Hs, H, ok, h1, h2, hl, _, _ => by
    have : zipD ds es = [] := by
      cases h1 with
      | nil => rfl
      | cons _ _ => cases h2 with
        | nil => rfl
        | cons _ _ => simp at hl
    rw [this]
    exact ⟨Hs, Same.refl _, ok, .nil, fun _ _ => rfl⟩
  | a :: as, _, _, _, _, Hs, H, ok, .nil, h2, hl, _, _ => by simp at hl
  | a :: as, _, _, _, _, Hs, H, ok, .cons _ _, .nil, hl, _, _ => by simp at hl
  | a :: as, _, _, _, _, Hs, H, ok, .cons (v := x) (vs := xs) g1 r1, .cons (v := y) (vs := ys) g2 r2, hl, hn, ha => by
    have hn' := List.nodup_cons.mp hn
    have hp := ha a (by simp)
    have f := (ok.free hp).1
    have ok1 := ok.allocS (o := .tup [x, y]) hp
    have s1 : Same Hs (upd Hs a (.tup [x, y])) := same_upd f
    obtain ⟨Hs', s', ok', hd, hk⟩ := adoptPairs ok1 (r1.mono s1) (r2.mono s1) (by simpa using hl) hn'.2 (fun t ht => by
      rw [upd_ne (fun z => hn'.1 (by rw [← z]; exact ht))]; exact ha t (List.mem_cons_of_mem _ ht))
    refine ⟨Hs', s1.trans s', ok', .cons (.tup (s' _ _ upd_same) (by show 2 ≤ sizeLine; decide) (.cons (g1.mono (s1.trans s')) (.cons (g2.mono (s1.trans s')) .nil))) hd, fun b hb => ?_⟩
    rw [hk b (fun z => hb (List.mem_cons_of_mem _ z)), upd_ne (fun z => hb (by rw [z]; exact List.mem_cons_self))]
omit [Tables] in
theorem putP_upd {S : Addr} {o : HO} : ∀ (as : List Addr) (ps : List (V × V)) (H : Hp), S ∉ as → putP (upd H S o) as ps = upd (putP H as ps) S o
  | [], _, _, _ => rfl
  | _ :: _, [], _, _ => rfl
  | a :: as, p :: ps, H, h => by
    have hne : a ≠ S := fun z => h (by rw [z]; exact List.mem_cons_self)
    show putP (upd (upd H S o) a (.tup [p.1, p.2])) as ps = upd (putP (upd H a (.tup [p.1, p.2])) as ps) S o
    rw [show upd (upd H S o) a (.tup [p.1, p.2]) = upd (upd H a (.tup [p.1, p.2])) S o from ?_, putP_upd as ps _ fun z => h (List.mem_cons_of_mem _ z)]
    funext b
    by_cases h1 : b = a
    · subst h1; rw [upd_same, upd_ne hne, upd_same]
    · by_cases h2 : b = S
      · subst h2; rw [upd_ne h1, upd_same, upd_same]
      · rw [upd_ne h1, upd_ne h2, upd_ne h2, upd_ne h1]
theorem ge_listZip {e e2 : Expr} {fa fb : FE} {p p2 pos pos2 : Pos} (hc : X.calm = true) (hml : X.mg "list" = none) (hmz : X.mg "zip" = none) (he : GE X E e fa) (he2 : GE X E e2 fb) (hgl : Gl X "list" := by rfl) (hgz : Gl X "zip" := by rfl)
    (hs : starEach [.Call (.Name "zip" p2) [e, e2] [] pos2] X.env = (false, eval (.Call (.Name "zip" p2) [e, e2] [] pos2) X.env) :: starEach [] X.env := by rfl)
    (hs1 : starEach [e, e2] X.env = (false, eval e X.env) :: starEach [e2] X.env := by rfl) (hs2 : starEach [e2] X.env = [(false, eval e2 X.env)] := by rfl) (hpl : (backTo pos2 (starEach [e2] X.env)).any (·.1) = false := by rfl) :
    GE X E (.Call (.Name "list" p) [.Call (.Name "zip" p2) [e, e2] [] pos2] [] pos) (fListZip fa fb) := by
  refine ⟨fun pins s σ H Q I ⟨S, Hs, env, ok, h⟩ => ?_⟩
  refine wpAny_Call_Name_kw (ld_blt I hgl hml (show bootBuiltins "list" = some (.type "list") by decide +kernel) ?_)
  refine PyProof.Rows.callWith_type1 ?_ hs rfl
  rw [hs]
  show wpAny _ _ (spliced ((false, eval (.Call (.Name "zip" p2) [e, e2] [] pos2) X.env) :: backTo pos (starEach [] X.env))) _ _ s
  refine Calls.spliced_cons ?_
  refine Call_ (ld_blt I hgz hmz PyProof.Rows.boot_zip (PyProof.Rows.callWith_type1 (thn ((ga_cons he (ga_cons he2 ga_nil hs2) hs1).run pos2 pins s σ H _ I (bindA ok h)) fun us s1 ⟨vs, H1, I1, r1, Hs1, z, s1', o1, d1, q⟩ => ?_) hs1 hpl))
  obtain ⟨ds, e1⟩ := z
  simp only at q
  split at q
  · rename_i d0 d d'
    obtain ⟨es, g1, q⟩ := RD.inv (sqOf_nox _) q
    obtain ⟨es2, g2, q⟩ := RD.inv (sqOf_nox _) q
    cases d1 with
    | cons dv r =>
      cases r with
      | cons dv2 r =>
        cases r
        obtain ⟨b, a, xs, ev, hz, hd, hq⟩ := seq_sq (K := X.K) dv g1
        obtain ⟨b', a', xs', ev', hz', hd', hq'⟩ := seq_sq (K := X.K) dv2 g2
        subst ev ev'
        cases r1 with
        | cons r rr =>
          cases rr with
          | cons r' rr =>
            cases rr
            cases r
            cases r'
            obtain ⟨its, rv, sq⟩ := Inv.sq I1 (hq H1 o1.sub)
            obtain ⟨its', rv', sq'⟩ := Inv.sq I1 (hq' H1 o1.sub)
            refine call_zipSq sq sq' fun h1 hzip hTI hTO hi1 hi2 hk => ?_
            refine Calls.spliced_nil ?_
            have hgt : s1.heap.objs.size + 4 < h1.objs.size := Heap.lt_size hzip
            have l1 := rv.length
            have l2 := rv'.length
            have D := PySem.W.ktu_apart s1.heap.objs.size a a' sq.lt sq'.lt
            have la := sq.lt
            have la' := sq'.lt
            have lt7 : s1.heap.objs.size + 4 < h1.objs.size ∧ s1.heap.objs.size + 2 < h1.objs.size ∧ s1.heap.objs.size + 3 < h1.objs.size ∧ s1.heap.objs.size < h1.objs.size ∧ s1.heap.objs.size + 1 < h1.objs.size ∧ a < h1.objs.size ∧ a' < h1.objs.size :=
              ⟨hgt, by omega, by omega, by omega, by omega, Nat.lt_trans la (by omega), Nat.lt_trans la' (by omega)⟩
            refine zl_call (s := { s1 with heap := h1 }) (show X.A.handled = none from I.ok.hd hc) D lt7 (by rw [List.size_toArray, List.size_toArray]; omega) hzip
              ⟨hTI, hi1, hi2, sq.at fun o e => hk _ o e, sq'.at fun o e => hk _ o e, .inl ⟨hzip, _, _, hTO⟩⟩ fun h2 tk acc c as hk2 hS hl hG hacc => ?_
            have hlen : as.length = (xs.zip xs').length := by rw [hl, List.length_zip, List.size_toArray, List.size_toArray, l1, l2]
            obtain ⟨n1, n2, n3, n4, I2⟩ := pairs_laid (tk := tk) (S := h1.objs.size) (h' := h2) (ps := xs.zip xs') (xs := its.toArray) (ys := its'.toArray) I1 (by rw [List.length_zip]; omega) (fun j p hj => by
                obtain ⟨p1, p2⟩ := p
                rw [List.getElem?_zip_eq_some] at hj
                obtain ⟨u, hu, ru⟩ := rv.get hj.1
                obtain ⟨u2, hu2, ru2⟩ := rv'.get hj.2
                exact ⟨u, u2, by simpa using hu, by simpa using hu2, ru, ru2⟩) (by omega)
              (fun b o e => hk2 b o (Nat.ne_of_lt (Nat.lt_of_lt_of_le (Heap.lt_size e) (by omega))) (Nat.ne_of_lt (Nat.lt_of_lt_of_le (Heap.lt_size e) (by omega))) (Nat.ne_of_lt (Heap.lt_size e)) (Nat.ne_of_lt (Nat.lt_of_lt_of_le (Heap.lt_size e) (by omega))) (hk b o e)) hS hlen hG hacc
            obtain ⟨Hs2, s2, ok2, hdz, hk3⟩ := adoptPairs o1 hd hd' hlen n4 n2
            rw [putP_upd as _ _ n3] at I2
            have hnS : putP H1 as (xs.zip xs') h1.objs.size = none := by rw [putP_off as _ _ n3]; exact n1
            have hz3 : (as.map V.ref).length ≤ sizeLine := by rw [List.length_map, hlen, List.length_zip]; omega
            exact ⟨.ref h1.objs.size, _, I2, rfl, q _ Hs2 _ (s1'.trans s2) (ok2.alloc hnS) ⟨_, rfl, ok2.newOwn hnS ⟨_, rfl, hz3, hdz⟩, (ok2.free hnS).2.2.2⟩⟩
  · exact q.elim
end
end PI
set_option autoImplicit false
set_option Elab.async false
set_option linter.all false
set_option maxRecDepth 100000
set_option autoImplicit false
/-! Pi25: rows of ints as keys, sorted. -/
namespace PI
open PySem
def rowT (r : List Int) : D := .tuple (iL r)
theorem keyG_row : KeyG rowT := fun a b => eqv_tt a b
@[simp] theorem okKey_row (r : List Int) : okKey true (rowT r) = true := by
  unfold rowT okKey
  rw [List.all_eq_true]
  intro d hd
  obtain ⟨i, _, rfl⟩ := List.mem_map.mp hd
  rfl
theorem alikeAll_ints : ∀ a b : List Int, PySem.W.alikeAll (iL a) (iL b) = true
  | [], _ => by simp [PySem.W.alikeAll]
  | _ :: _, [] => by simp [PySem.W.alikeAll]
  | x :: a, y :: b => by
    rw [iL_cons, iL_cons, PySem.W.alikeAll, alikeAll_ints a b]
    simp [PySem.W.alike]
theorem sortOk_rows {ks : List (List Int)} (h : ∀ r ∈ ks, r ≠ []) : sortOk (ks.map rowT) = true := by
  unfold sortOk
  rw [Bool.and_eq_true, Bool.and_eq_true, Bool.or_eq_true]
  refine ⟨List.all_eq_true.mpr fun d hd => ?_, List.all_eq_true.mpr fun d hd => List.all_eq_true.mpr fun e he => ?_, .inl (List.all_eq_true.mpr fun d hd => ?_)⟩
  · obtain ⟨r, _, rfl⟩ := List.mem_map.mp hd
    rw [show (rowT r).plain = true from plain_tL r]
    simp [rowT, depth_t, depth_iL]
  · obtain ⟨r, _, rfl⟩ := List.mem_map.mp hd; obtain ⟨q, _, rfl⟩ := List.mem_map.mp he
    show PySem.W.alike (.tuple (iL r)) (.tuple (iL q)) = true
    rw [PySem.W.alike, alikeAll_ints]
  · obtain ⟨r, hr, rfl⟩ := List.mem_map.mp hd
    cases r with
    | nil => exact absurd rfl (h _ hr)
    | cons x r => rfl
def leR (a b : List Int) : Bool := decide (a ≤ b)
def sortR (ks : List (List Int)) : List (List Int) := ks.mergeSort leR
theorem leR_trans (a b c : List Int) (h1 : leR a b = true) (h2 : leR b c = true) : leR a c = true := by
  unfold leR at *
  rw [decide_eq_true_eq] at *
  exact List.le_trans h1 h2
theorem leR_total (a b : List Int) : (leR a b || leR b a) = true := by
  unfold leR
  rw [Bool.or_eq_true, decide_eq_true_eq, decide_eq_true_eq]
  exact List.le_total a b
theorem leR_anti (a b : List Int) (h1 : leR a b = true) (h2 : leR b a = true) : a = b := by
  unfold leR at *
  rw [decide_eq_true_eq] at *
  exact List.le_antisymm h1 h2
theorem dataLe_rowT (a b : List Int) : PySem.W.dataLe false id (rowT a) (rowT b) = leR a b := by
  show (!PySem.W.dataLt (.tuple (iL b)) (.tuple (iL a))) = _
  rw [PySem.W.dataLt_tuple]
  show (!PySem.W.rowLt (b.map .int) (a.map .int)) = _
  rw [PySem.W.dataLt_ints]
  unfold leR
  by_cases h : b < a
  · have h' : ¬ a ≤ b := fun r => List.not_lt.mpr r h
    simp [h, h']
  · have h' : a ≤ b := List.not_lt.mp h
    simp [h, h']
theorem sortDs_rows (ks : List (List Int)) : sortDs (ks.map rowT) = (sortR ks).map rowT := by
  unfold sortDs sortR
  rw [List.map_mergeSort]
  intro a _ b _
  exact (dataLe_rowT a b).symm
theorem sortR_perm (ks : List (List Int)) : (sortR ks).Perm ks := List.mergeSort_perm ks _
theorem sortR_ord (ks : List (List Int)) : (sortR ks).Pairwise fun a b => leR a b = true := List.pairwise_mergeSort leR_trans leR_total ks
theorem sortR_filter (p : List Int → Bool) (ks : List (List Int)) : (sortR ks).filter p = sortR (ks.filter p) :=
  List.Perm.eq_of_pairwise (fun a b _ _ h1 h2 => leR_anti a b h1 h2) ((sortR_ord ks).filter p) (sortR_ord _) (((sortR_perm ks).filter p).trans (sortR_perm _).symm)
theorem sortR_mem {r : List Int} {ks : List (List Int)} : r ∈ sortR ks ↔ r ∈ ks := (sortR_perm ks).mem_iff
theorem sortA_rows {ks : List (List Int)} (h : ∀ r ∈ ks, r ≠ []) : sortA [.list (ks.map rowT)] = .ok (.fr (.lst ((sortR ks).map rowT))) := by
  show (if sortOk (ks.map rowT) = true then R.ok (RV.fr (.lst (sortDs (ks.map rowT)))) else _) = _
  rw [if_pos (sortOk_rows h), sortDs_rows]
theorem sortA_dR {β : Type} (f : β → D) {kvs : List (List Int × β)} (h : ∀ p ∈ kvs, p.1 ≠ []) : sortA [.dict (mkD true (dK rowT f kvs))] = .ok (.fr (.lst ((sortR (kvs.map (·.1))).map rowT))) := by
  unfold sortA
  simp only [kvOf_T, dK_keys]
  rw [if_pos (sortOk_rows fun r hr => by obtain ⟨p, hp, rfl⟩ := List.mem_map.mp hr; exact h p hp), sortDs_rows]
/-- a dict asked at a key -/
theorem ixD_dT {κ β : Type} [DecidableEq κ] {g : κ → D} (hg : KeyG g) (hk : ∀ k, okKey true (g k) = true) {f : β → D} {kvs : List (κ × β)} {k : κ} {v : β} (h : lookA kvs k = some v) : ixD (.dict (mkD true (dK g f kvs))) (g k) = .ok (.sh (f v)) := by
  have := look_dK hg f k kvs
  rw [h] at this
  show dgetD (.dict (mkD true (dK g f kvs))) (g k) = _
  unfold dgetD
  rw [kvOf_T]
  simp [this, hk]
theorem getD2_dT {κ β : Type} [DecidableEq κ] {g : κ → D} (hg : KeyG g) (hk : ∀ k, okKey true (g k) = true) (f : β → D) (kvs : List (κ × β)) (k : κ) (x : D) : getD2 (.dict (mkD true (dK g f kvs))) (g k) x = .ok (((lookA kvs k).map f).getD x) := by
  unfold getD2
  rw [kvOf_T]
  simp [hk, look_dK hg]
theorem seqOf_T (kvs : List (D × D)) : seqOf (.dict (mkD true kvs)) = .ok (kvs.map (·.1)) := rfl
end PI
set_option autoImplicit false
set_option Elab.async false
set_option linter.all false
set_option maxRecDepth 100000
set_option autoImplicit false
set_option maxHeartbeats 1000000
/-! Pi26: d.values() walked; min of data, of d.values(). -/
namespace PI
open PySem PySem.Spec PyProof.Rows L2
open R (RD_bnd)
/-! ### for v in d.values() -/
def valsOf (d : D) : R (List D) := match kvOf d with
  | some (false, kvs) => .ok (kvs.map (·.2))
  | _ => .bad
def iValues (a : FE) : FI := fun env => (a env).bnd fun x => (fzL x.2 x.1).bnd fun y => (valsOf y.1).bnd fun ds => .ok (ds, y.2)
theorem valsOf_nox (d : D) : ∀ c, valsOf d ≠ .exc c := by
  intro c h
  unfold valsOf at h
  split at h <;> cases h
theorem src_valsK [Tables] {Hs : Hp} {a : Addr} {o : Obj} {ks : List (Key × V)} {kvs : List (D × D)} (h : Hs a = some (.frz o (.dK ks))) (r : DqK Hs ks kvs) : Src (Itd a o ks) Hs (kvs.map (·.2)) := fun i H s => by
  have hH := s _ _ h
  have hl := r.length
  refine ⟨fun d hd => ?_, fun z => ⟨hH, by simpa [hl] using z⟩⟩
  rw [List.getElem?_map] at hd
  cases hk : kvs[i]? with
  | none => rw [hk] at hd; cases hd
  | some p =>
    rw [hk] at hd
    obtain ⟨kd, d0⟩ := p
    cases hd
    obtain ⟨k, v, e1, e2, e3⟩ := r.get hk
    refine ⟨⟨hH, by have := (List.getElem?_eq_some_iff.mp e1).1; exact this⟩, fun x H' ⟨e, k', e4⟩ => .inl ⟨e, ?_⟩⟩
    rw [e1] at e4; cases e4
    exact e3
section
variable [Tables] {X : Cx} {E : XE} {tg : Expr}
theorem gi_values {e : Expr} {fa : FE} {apos cpos : Pos} (he : GE X E e fa) (hbase : attributeBase e "values" X.env (eval e X.env) = eval e X.env := by rfl) (hline : (apos.endLine == cpos.line) = true := by rfl) : GI X E tg (.Call (.Attribute e "values" apos) [] [] cpos) (iValues fa) := by
  refine PI.imp (pi_values (ge_fz he) hbase hline) fun σ H R ⟨S, Hs, env, ok, h⟩ => ?_
  refine fI.mono (bindL ok h) fun v H1 ⟨Hs1, y, s1, o1, d1, q⟩ => ?_
  obtain ⟨ds, e1, q⟩ := RD.inv (valsOf_nox _) q
  unfold valsOf at e1
  split at e1
  · rename_i kvs hk
    cases e1
    generalize hy : y.1 = dd at d1 hk
    cases d1 with
    | @dctK a o ks kvs' h1 h2 h3 =>
      rw [h3.kv] at hk
      cases hk
      exact ⟨a, o, ks, rfl, o1.sub _ _ h1, q _ Hs1 H1 s1 o1 (by rw [List.length_map, ← h3.length]; exact h2) (src_valsK h1 h3)⟩
    | dctT h1 h2 h3 => cases hk
    | _ => cases hk
  · cases e1
/-! ### min of data -/
def okMin (ds : List D) : Bool := (ds.all fun d => d.plain && (decide (d.depth ≤ 60) && noNone d)) && ds.all fun d => ds.all fun e => PySem.W.alike d e
def minDs : List D → R RV
  | x :: xs => if okMin (x :: xs) = true then .ok (.sh (PySem.W.minD x xs)) else .bad
  | [] => .bad
def minA (args : List D) : R RV := match minD args with
  | .ok r => .ok r
  | _ => match args with
    | [.list ds] => minDs ds
    | _ => .bad
omit [Tables] in
theorem minA_of {args : List D} {r : RV} (h : minD args = .ok r) : minA args = .ok r := by unfold minA; rw [h]
omit [Tables] in
@[simp] theorem minA_ii (i j : Int) : minA [.int i, .int j] = .ok (.sh (.int (min i j))) := minA_of (minD_ii i j)
structure MinP (ds : List D) : Prop where
  plain : ∀ d ∈ ds, d.plain = true
  depth : ∀ d ∈ ds, d.depth ≤ 60
  alike : PySem.W.AlikeAll ds
omit [Tables] in
theorem minP_of {ds : List D} (h : okMin ds = true) : MinP ds := by
  unfold okMin at h
  rw [Bool.and_eq_true, List.all_eq_true, List.all_eq_true] at h
  obtain ⟨h1, h2⟩ := h
  have h1 : ∀ d ∈ ds, d.plain = true ∧ d.depth ≤ 60 ∧ noNone d = true := fun d hd => by
    have := h1 d hd
    rw [Bool.and_eq_true, Bool.and_eq_true, decide_eq_true_eq] at this
    exact this
  exact ⟨fun d hd => (h1 d hd).1, fun d hd => (h1 d hd).2.1, fun d hd e he => List.all_eq_true.mp (h2 d hd) e he, fun d hd e => by have := (h1 d hd).2.2; rw [e] at this; cases this⟩
omit [Tables] in
theorem vR_readsAll {pins : List (Addr × Obj)} {σ : St} {Hs H : Hp} {s : Shared} (I : Inv X pins σ H s) (sm : Same Hs H) : ∀ {ds : List D} {its : List Value}, (∀ d ∈ ds, d.plain = true) → PySem.W.EachIs (vR Hs) its ds → ∃ as, ReadsAll s.heap its ds as
  | [], _, _, .nil => ⟨[], .nil⟩
  | d :: ds, _, hp, .cons ⟨x, rx, hx⟩ r => by
    obtain ⟨as, ha⟩ := vR_readsAll I sm (fun d hd => hp d (List.mem_cons_of_mem _ hd)) r
    obtain ⟨a0, h0⟩ := Dp.reads I d x _ ((hx.mono sm).dp (hp d List.mem_cons_self)) rx
    exact ⟨_, .cons h0 ha⟩
omit [Tables] in
theorem each_get {α β : Type} {R : α → β → Prop} : ∀ {xs : List α} {ys : List β}, PySem.W.EachIs R xs ys → ∀ {i : Nat} {x : α}, xs[i]? = some x → ∃ y, ys[i]? = some y ∧ R x y
  | _, _, .nil, i, x, e => by simp at e
  | _, _, .cons h r, 0, x, e => by
    have e := Option.some.inj (show some _ = some x from e)
    subst e
    exact ⟨_, rfl, h⟩
  | _, _, .cons h r, i + 1, x, e => each_get r (by simpa using e)
theorem cr_minA (hc : X.calm = true) (hu : X.A.units + 64 < cLine) : CallR X (.builtin "min") (rL minA) := by
  rintro pins s σ H xs us Q I r ⟨S, Hs, σ', env, ds, rr, ok, t, e, q⟩
  unfold minA at e
  split at e
  · rename_i r0 h0
    cases e
    exact cr_minD hc pins s σ H xs us Q I r ⟨S, Hs, σ', env, ds, _, ok, t, h0, q⟩
  · split at e
    · rename_i l
      unfold minDs at e
      split at e
      · rename_i x l'
        split at e
        · rename_i hk
          cases e
          have mp := minP_of hk
          obtain ⟨y, rfl, t1⟩ := t.one
          obtain ⟨p, ys, rfl, h1, h2, h3⟩ := t1.list ok.sub
          obtain rfl := Vals.ref1 r
          obtain ⟨its, rv, pl, hz⟩ := I.list (SqL.of h1)
          have eR := each_of rv h3
          obtain ⟨as, ra⟩ := vR_readsAll I ok.sub mp.plain eR
          refine PySem.W.min_list_data (I.ok.hd hc) pl.isList (by simpa using ra) mp.alike ?_ fun i v h' tk bs hv rb k => ?_
          · have := depthAll_le mp.depth
            show X.A.units + 1 + _ < cLine
            omega
          · obtain ⟨d, hd, z, rz, hz⟩ := each_get eR (by simpa using hv)
            have I2 : Inv X pins σ H { s with heap := h', toks := tk } := I.kept k
            have hpd : d.plain = true := mp.plain d (List.mem_of_getElem? hd)
            obtain ⟨a2, r2⟩ := Dp.reads I2 d z v ((hz.mono ok.sub).dp hpd) rz
            have e2 := (Reads.unique r2 _ _ rb).1
            exact ⟨z, H, I2, rz, PV.sh ok q (by rw [← e2]; exact hz)⟩
        · cases e
      · cases e
    · cases e
/-! ### min(d.values()) -/
def fMinVals (a : FE) : FE := fun env => (a env).bnd fun x => (rd x.2 (hold x.1)).bnd fun d => (valsOf d).bnd fun ds => (minDs ds).nox.bnd fun r => .ok (r, x.2)
omit [Tables] in
theorem DqK.vals {Hs : Hp} : ∀ {ks : List (Key × V)} {kvs : List (D × D)}, DqK Hs ks kvs → DqAll Hs (ks.map (·.2)) (kvs.map (·.2))
  | _, _, .nil => .nil
  | _, _, .cons h r => .cons h (DqK.vals r)
omit [Tables] in
theorem KV.valsV {κ : Type} {kvs : List (κ × V)} {vs : List (κ × Value)} (r : KV kvs vs) : Vals (kvs.map (·.2)) (vs.map (·.2)) := by
  unfold KV at r
  induction r with
  | nil => exact .nil
  | cons h t ih => exact .cons h.2 ih
theorem ge_minVals {o : Expr} {fa : FE} {p pos apos mpos : Pos} (hc : X.calm = true) (hu : X.A.units + 64 < cLine) (hm : X.mg "min" = none) (he : GE X E o fa) (hg : Gl X "min" := by rfl) (hbase : attributeBase o "values" X.env (eval o X.env) = eval o X.env := by rfl) (hline : (apos.endLine == mpos.line) = true := by rfl)
    (hse : starEach [Expr.Call (.Attribute o "values" apos) [] [] mpos] X.env = [(false, eval (Expr.Call (.Attribute o "values" apos) [] [] mpos) X.env)] := by rfl) :
    GE X E (.Call (.Name "min" p) [.Call (.Attribute o "values" apos) [] [] mpos] [] pos) (fMinVals fa) := by
  refine ⟨fun pins s σ H Q I ⟨S, Hs, env, ok, h⟩ => ?_⟩
  refine wpAny_Call_Name_kw (ld_blt I hg hm (u := .builtin "min") (by first | rfl | decide +kernel) ?_ (by first | decide +kernel | decide) (by first | decide +kernel | decide))
  rw [hse]
  refine PySem.callWith_builtin1 (wpAny_Call_method0_late hbase hline (thn (he.run pins s σ H _ I (bindH ok h)) fun v s1 ⟨x, H1, I1, r1, Hs1, y, sm, o1, rv1, q⟩ => ?_))
  obtain ⟨d0, e0, q⟩ := RD.inv (rd_nox _ _) q
  obtain ⟨ds, e1, q⟩ := RD.inv (valsOf_nox _) q
  obtain ⟨r2, e2, q⟩ := RD.inv (nox_nox _) q
  have e2 := nox_ok_of e2
  have t0 := o1.rd rv1 e0
  unfold valsOf at e1
  split at e1
  · rename_i kvs hk
    cases e1
    obtain ⟨a, rfl, hd⟩ := t0.dct o1.sub hk
    obtain ⟨ks, h1, h2⟩ := hd
    obtain rfl : v = Value.ref a := r1
    obtain ⟨hz, hsys, vs, rel, dof⟩ := dk_rd I1.hok h1
    obtain ⟨ep, dat⟩ := dof.dictAt
    have dat' := dat
    obtain ⟨ob, es, ho, ex, hdat, hko, hpr, hnd⟩ := dat'
    refine ⟨"dict", "dict.values", F.plainAttrs_dict, F.slot_dict_values, F.type_dict_values, ⟨ob, ho, ex.1⟩, fun b e => ?_, Calls.callWith_builtin rfl (PySem.evalArgs_none ?_)⟩
    · cases e
      exact ⟨ob, ho, ex.2.1⟩
    refine call_meetsIn F.slot_dict_values ⟨ob, ho, ex.1⟩ F.entry_dict_values (F.args_dict_values_1 _) (meets_dict_values (mixKind X.prog X.w) a hsys) ⟨⟨vs, dof⟩, ?_⟩
    have k1 : ∀ b u, s1.heap.get? b = some u → (s1.heap.push { cls := .type "dict_values", data := .fields #[.ref a] }).get? b = some u := fun b u e => Heap.get?_push_of_some _ e
    have dat1 : (s1.heap.push { cls := .type "dict_values", data := .fields #[.ref a] }).DictAt (mixKind X.prog X.w) a vs ep := dat.keep k1
    have eR := each_of (KV.valsV rel) h2.vals
    unfold minDs at e2
    split at e2
    · rename_i x0 l' hl
      split at e2
      · rename_i hok
        cases e2
        have mp := minP_of hok
        rw [hl] at eR
        obtain ⟨as, ra⟩ := vR_readsAll I1 o1.sub mp.plain eR
        have ra' : ReadsAll s1.heap (vs.map (·.2)).toArray.toList (x0 :: l') as := by simpa using ra
        have hvl : vs.length = l'.length + 1 := by
          have := PySem.W.readsAll_len ra'
          simpa using this
        have hu' : X.A.in1.units + PyData.depthAll (x0 :: l') < cLine := by
          have := depthAll_le mp.depth
          show X.A.units + 1 + _ < cLine
          omega
        have hlt : a < s1.heap.objs.size := Heap.lt_size ho
        have hsz : (s1.heap.push { cls := .type "dict_values", data := .fields #[.ref a] }).objs.size = s1.heap.objs.size + 1 := Heap.size_push _ _
        refine PySem.call_min_walkH (wpAny_pyIter_values (v := s1.heap.objs.size) (d := a) ⟨_, Heap.get?_push_size _ rfl, rfl, rfl⟩ dat1 ?_)
        refine ⟨_, _, _, _, _, _, _, s1.heap, fun i j => PySem.W.dataLt ((x0 :: l').getD i .none) ((x0 :: l').getD j .none), rfl, (Walks.dictValues (knd := mixKind X.prog X.w) (A := X.A.in1) (I.ok.hd hc) (s1.heap.push { cls := .type "dict_values", data := .fields #[.ref a] }).objs.size a (by rw [hsz]; exact Nat.ne_of_lt (Nat.lt_succ_of_lt hlt)) vs ep).toS,
          ⟨⟨_, Heap.get?_push_size _ rfl, rfl, rfl⟩, dat1.keep fun b u e => Heap.get?_push_of_some _ e⟩, fun b hb => ?_, by omega, fun b o e hm => ?_, fun b o e => Heap.get?_push_of_some _ (k1 b o e), fun i j vi vj s' Q' E' hk ⟨k1', g1⟩ ⟨k2', g2⟩ hq => PySem.W.cmpIn_lt (s := s1) (A := X.A.in1) ra' mp.alike hu' i j vi vj s' Q' E' hk (by simp [g1]) (by simp [g2]) hq, fun v s' hP m => ?_⟩
        · show b < ((s1.heap.push _).push _).objs.size
          rw [Heap.size_push, Heap.size_push]
          rw [hsz] at hb
          rcases List.mem_cons.mp hb with e | hb
          · rw [e]
            exact Nat.lt_succ_self _
          · have e : b = a := List.mem_singleton.mp hb
            rw [e]
            exact Nat.lt_succ_of_lt (Nat.lt_succ_of_lt hlt)
        · have e1 : b = (s1.heap.push { cls := .type "dict_values", data := .fields #[.ref a] }).objs.size := List.mem_singleton.mp hm
          have e2 := Heap.lt_size e
          rw [hsz] at e1
          rw [e1] at e2
          exact absurd e2 (Nat.not_lt.mpr (Nat.le_succ _))
        · obtain ⟨kk, hP⟩ := hP
          obtain ⟨h', tk, rfl, hk'⟩ := PySem.W.moved_old (s := { s1 with heap := s1.heap.push { cls := .type "dict_values", data := .fields #[.ref a] } }) rfl rfl m
          have hv : (vs.map (·.2))[PySem.argBest (fun i j => PySem.W.dataLt ((x0 :: l').getD i .none) ((x0 :: l').getD j .none)) (vs.length - 1)]? = some v := by rw [List.getElem?_map, hP]; rfl
          obtain ⟨d, hd, z, rz, hzq⟩ := each_get eR hv
          have e3 : vs.length - 1 = l'.length := by omega
          have e4 := (PySem.W.argBest_fold PySem.W.dataLt PyData.none x0 l' l'.length (Nat.le_refl _)).2
          rw [List.take_length] at e4
          rw [e3] at hd
          have e5 : d = PySem.W.minD x0 l' := by
            unfold PySem.W.minD
            rw [← e4, List.getD_eq_getElem?_getD, hd]
            rfl
          have I2 : Inv X pins σ H1 { s1 with heap := h', toks := tk } := I1.kept (t' := tk) fun b u e => hk' b u (k1 b u e)
          exact ⟨z, H1, I2, rz, q z Hs1 H1 sm o1 (by show Dq Hs1 z _; rw [← e5]; exact hzq)⟩
      · cases e2
    · cases e2
  · cases e1
end
end PI
set_option autoImplicit false
set_option Elab.async false
set_option linter.all false
set_option maxRecDepth 100000
set_option autoImplicit false
set_option maxHeartbeats 1000000
/-! Pi27: d != {}. -/
namespace PI
open PySem PySem.Spec PyProof.Rows L2
open R (RD_bnd)
section
variable {prog : Program} {w : World} {κ : Type} [DecidableEq κ] {knd : KeyKind prog w κ} {A : Around} {s : Shared}
theorem rcNe_nil {a b : Addr} {ka : List (κ × Value)} (ha : (a == sysModules) = false) (hb : (b == sysModules) = false)
    (da : s.heap.DictOf knd a ka) (db : s.heap.DictOf knd b []) (hu : A.units < cLine) (E Q : Value → Shared → Prop) (h : Q (.bool (!ka.isEmpty)) s) : wpAny (model prog w) A (richCompare .NotEq (.ref a) (.ref b)) Q E s := by
  refine wpAny_richCompare_same_room (op := .NotEq) da.typeIs db.typeIs PySem.F.slot_dict_ne (wpAny_call_entry PySem.F.slot_dict_ne da.typeIs PySem.F.entry_dict_ne ?_ (PySem.F.args_dict_ne_2 _ _)) hu
  show wpAny _ _ (Builtin.Dict.dictSlotArgs "__ne__" ⟨[.ref a, .ref b], []⟩ >>= _) _ _ s
  refine wpAny_bind ?_
  unfold Builtin.Dict.dictSlotArgs
  refine wpAny_bind (wpAny_notOrdered_dict da.typeIs ?_)
  show wpAny _ _ (pure (Value.ref a, Value.ref b)) _ _ s
  refine wpAny_pure ?_
  refine wpAny_bind (wpAny_isInstance (T := "dict") db.typeIs PySem.F.sub_dict_dict ?_)
  simp only [Bool.not_true, Bool.false_eq_true, if_false]
  refine wpAny_bind (wpAny_pure (wpAny_bind (wpAny_pure ?_)))
  refine wpAny_bind (PySem.W.samePairsP (r := true) ha hb da db (fun hl => ?_) ?_)
  · cases ka with
    | nil => exact .nil
    | cons p r => simp at hl
  · refine wpAny_pure ⟨_, rfl, ?_, ?_⟩
    · exact fun x => nomatch x
    · cases ka with
      | nil => simpa using h
      | cons p r => simpa using h
end
def rDNe : R2 := fun x y H Q => ∃ a b ks, x = .ref a ∧ y = .ref b ∧ Rd H a (.dK ks) ∧ H b = some (.dK []) ∧ Q (.bl (!ks.isEmpty)) H
/-- a != {}, a a dict with ints or texts as keys -/
def fDNe (a : FE) : FE := fun env => (a env).bnd fun x => (rd x.2 (hold x.1)).bnd fun d => match kvOf d with
  | some (false, kvs) => .ok (.sh (.bool (!kvs.isEmpty)), x.2)
  | _ => .bad
section
variable [Tables] {X : Cx} {E : XE}
omit [Tables] in
theorem op_dne (hu : X.A.units + 64 < cLine) : OpR X (compareOp .NotEq) rDNe := by
  rintro pins s σ H x y v u Q I rx ry ⟨a, b, ks, rfl, rfl, ha, hb, q⟩
  cases rx
  cases ry
  obtain ⟨z1, s1, vs, rel, da⟩ := dk_rd I.hok ha
  obtain ⟨z2, s2, vs2, rel2, db⟩ := dk_of I.hok hb
  have e2 : vs2 = [] := by
    have := KV.length rel2
    exact List.eq_nil_of_length_eq_zero this.symm
  subst e2
  have e1 : vs.isEmpty = ks.isEmpty := by
    have := KV.length rel
    cases vs <;> cases ks <;> simp_all
  exact rcNe_nil s1 s2 da db (by omega) _ _ ⟨.bl _, H, I, rfl, by rw [e1]; exact q⟩
theorem dneI {fa : FE} {σ : St} {H : Hp} {Q : VK} (h : tI E (fDNe fa) σ H Q) : tOp rDNe (tI E fa) tDNewK σ H Q := by
  obtain ⟨S, Hs, env, ok, h⟩ := h
  refine tI.mono (bindH ok h) fun v H1 ⟨Hs1, x, s1, o1, r1, q⟩ => ?_
  obtain ⟨d, e, q⟩ := RD.inv (rd_nox _ _) q
  split at q
  · rename_i kvs hk
    obtain ⟨a, rfl, hd⟩ := (o1.rd r1 e).dct o1.sub hk
    obtain ⟨ks, h1, h2⟩ := hd
    intro p hp
    have hne : a ≠ p := by
      rintro rfl
      rcases h1 with h1 | ⟨_, h1⟩ <;> rw [hp] at h1 <;> cases h1
    have h1' : Rd (upd H1 p (.dK [])) a (.dK ks) := by
      rcases h1 with h1 | ⟨o, h1⟩
      · exact .inl (by rw [upd_ne hne]; exact h1)
      · exact .inr ⟨o, by rw [upd_ne hne]; exact h1⟩
    have e1 : ks.isEmpty = kvs.isEmpty := by
      have := h2.length
      cases ks <;> cases kvs <;> simp_all
    exact ⟨a, p, ks, rfl, rfl, h1', upd_same, by rw [e1]; exact q _ Hs1 _ s1 (o1.alloc hp) (.bl _)⟩
  · exact q.elim
theorem ge_dne {a : Expr} {fa : FE} {pos dpos : Pos} (hu : X.A.units + 64 < cLine) (ha : GE X E a fa) (hm : behindInMarks .NotEq (.Dict [] [] dpos) = false := by first | exact nobehind _ (by decide) (by decide) | rfl) : GE X E (.Compare a [.NotEq] [.Dict [] [] dpos] pos) (fDNe fa) :=
  PE.imp (pe_cmpR (op_dne hu) ha pe_dnewK hm) fun _ _ _ => dneI
theorem gt_dne {a : Expr} {fa : FE} {pos dpos : Pos} (hu : X.A.units + 64 < cLine) (ha : GE X E a fa) (hm : behindInMarks .NotEq (.Dict [] [] dpos) = false := by first | exact nobehind _ (by decide) (by decide) | rfl) : GT X E (.Compare a [.NotEq] [.Dict [] [] dpos] pos) (tVal (fDNe fa)) :=
  PT.imp (pt_cmpR (op_dne hu) ha pe_dnewK hm) fun σ H Q h => dneI (valI h)
end
/-! ### by simp -/
section
variable (env : Env)
@[simp ↓] theorem v_dne (a : FE) : fDNe a env = (a env).bnd fun x => (rd x.2 (hold x.1)).bnd fun d => (match kvOf d with
  | some (false, kvs) => .ok (.sh (.bool (!kvs.isEmpty)), x.2)
  | _ => .bad) := rfl
@[simp ↓] theorem v_minVals (a : FE) : fMinVals a env = (a env).bnd fun x => (rd x.2 (hold x.1)).bnd fun d => (valsOf d).bnd fun ds => (minDs ds).nox.bnd fun r => .ok (r, x.2) := rfl
@[simp ↓] theorem v_values (a : FE) : iValues a env = (a env).bnd fun x => (fzL x.2 x.1).bnd fun y => (valsOf y.1).bnd fun ds => .ok (ds, y.2) := rfl
end
theorem valsOf_dI {β : Type} (f : β → D) (kvs : List (Int × β)) : valsOf (.dict (dK PyData.int f kvs)) = .ok ((kvs.map (·.2)).map f) := by
  unfold valsOf
  rw [kvOf_dI]
  simp [dK_vals]
end PI
set_option autoImplicit false
set_option Elab.async false
set_option linter.all false
set_option maxRecDepth 100000
set_option autoImplicit false
/-! Pi28: a, b = x, y, own objects of names among them: all becomes shared. -/
namespace PI
open PySem PySem.Spec PyProof.Rows L2
open R (RD_bnd)
def sParL (i j : Nat) (a b : FE) : FS := fun env => (fArgs [a, b] env).bnd fun z => match z.1 with
  | [d, e] => .ok (.nx ((z.2.set i (some (.sh d))).set j (some (.sh e))))
  | _ => .bad
section
variable [Tables] {X : Cx} {E : XE} {fa fb : FE} {pos : Pos}
theorem gs_parL {i j : Nat} {x y : Str} {a b : Expr} {px py pt : Pos} {kt k2 pt2} (hc : X.calm = true) (hN : X.N.Nodup) (hi : X.N[i]? = some x) (hj : X.N[j]? = some y) (hij : i ≠ j)
    (hx : X.env.scope.names.lookup x = some .local) (hy : X.env.scope.names.lookup y = some .local) (ha : GE X E a fa) (hb : GE X E b fb)
    (hw : swappedStores [.Tuple [.Name x px, .Name y py] kt pt] (.Tuple [a, b] k2 pt2) X.env = pure (some [x, y]))
    (hs : swapsWithSole [.Tuple [.Name x px, .Name y py] kt pt] (.Tuple [a, b] k2 pt2) pos.line X.env = pure false := by rfl)
    (ha1 : starEach (a :: [b]) X.env = (false, eval a X.env) :: starEach [b] X.env := by rfl) (hb1 : starEach [b] X.env = [(false, eval b X.env)] := by rfl) :
    GS X E (.Assign [.Tuple [.Name x px, .Name y py] kt pt] (.Tuple [a, b] k2 pt2) pos) (sParL i j fa fb) := by
  refine PS.imp (ps_par hc hN hi hj hij hx hy (ga_cons ha (ga_cons hb ga_nil hb1) ha1) hw hs) fun De σ H ⟨S, Hs, env, ok, h⟩ => ?_
  unfold sParL at h
  refine aI.mono (bindA ok h) fun vs H1 ⟨Hs1, z, s1, o1, d1, q⟩ => ?_
  obtain ⟨ds, e1⟩ := z
  simp only at q
  split at q
  · rename_i d0 d e
    cases d1 with
    | cons h1 r =>
      cases r with
      | cons h2 r =>
        cases r
        exact ⟨_, _, rfl, q _ Hs1 H1 s1 ((o1.put h1).put h2)⟩
  · exact q.elim
end
@[simp ↓] theorem v_parL (i j : Nat) (a b : FE) (env : PI.Env) : sParL i j a b env = (fArgs [a, b] env).bnd fun z => (match z.1 with
  | [d, e] => .ok (.nx ((z.2.set i (some (.sh d))).set j (some (.sh e))))
  | _ => .bad) := rfl
end PI
set_option autoImplicit false
set_option Elab.async false
set_option linter.all false
set_option maxRecDepth 100000
set_option autoImplicit false
/-! Pi29: dict comprehensions, keys ints and texts, or tuples of such. -/
namespace PI
open PySem PySem.Spec PyProof.Rows L2
open R (RD_bnd)
/-- an empty dict of a kind -/
def dE (t : Bool) : HO := match t with
  | false => .dK []
  | true => .dT []
theorem dE_ocr {Hs : Hp} (t : Bool) : OCR Hs (.dct t []) (dE t) := by
  cases t with
  | false => exact ⟨[], rfl, Nat.zero_le _, .nil⟩
  | true => exact ⟨[], rfl, Nat.zero_le _, .nil⟩
theorem dE_ntp (t : Bool) : isTp (dE t) = false := by cases t <;> rfl
theorem dE_empty {P : Program} {w : World} {H : Hp} (t : Bool) (h : Heap) (hb : sysModules < h.objs.size) : ObjOk P w H (h.push { cls := .type "dict", data := .dict #[] }) h.objs.size (dE t) := by
  cases t with
  | false => exact dk_empty h hb
  | true => exact dt_empty h hb
section
variable [Tables] {X : Cx}
omit [Tables] in
/-- the key and the value go into the new dict -/
theorem dset_any {pins : List (Addr × Obj)} {σ : St} {H H' : Hp} {s : Shared} {D : Addr} {y v : V} {u r : Value} {A : Around} {E : Value → Shared → Prop} {Q : Unit → Shared → Prop} (hu : A.units + 1 < cLine) (I : Inv X pins σ H s) (g : DPut H D y v H') (ry : RelV y u) (rv : RelV v r) (h : ∀ s', Inv X pins σ H' s' → Q () s') :
    wpAny (model X.prog X.w) A (dictSet D u r) Q E s := by
  rcases g with ⟨kvs, k, hD, ey, hz, eH⟩ | ⟨kvs, k, b, hD, ey, eb, hz, eH⟩
  · subst ey eH
    obtain ⟨z, hd, vs, rel, dd⟩ := dk_of I.hok hD
    refine wpAny_dictSet_pairs (hsz := by rw [← rel.length]; exact z) (kV_is ry) dd fun h' dd' hs => h _ ?_
    have hl : (putK kvs k v).length ≤ sizeLine := Nat.le_trans (length_putK kvs k v) hz
    exact d_write I (by rw [hD]; exact True.intro) hs (by obtain ⟨q, _, _, hq, _⟩ := dd'; exact ⟨q, hq⟩) (dk_new hl hd (rel.put k rv) dd')
  · subst ey eH
    cases (show u = Value.ref b from ry)
    obtain ⟨z, hd, xs, rel, dd⟩ := dt_of I.hok hD
    have hl : (putK kvs k v).length ≤ sizeLine := Nat.le_trans (length_putK kvs k v) hz
    refine wpAny_dictSet_heap (hsz := by rw [← Paired.length rel]; exact z) (show (tupleKind (mixKind X.prog X.w)).room A from by show A.units < cLine; omega) (key_of I.hok eb) dd fun h' dd' hs => h _ ?_
    obtain ⟨q, es, ep, hq, h2, h3, h4, _, h5⟩ := dd'
    have kp : KT (upd H D (.dT (putK kvs k v))) (putK kvs k v) _ := (rel.put k eb rv).keeps fun c ys ec => (upd_ne (ne_of ec hD fun z => nomatch z)).trans ec
    exact d_write I (by rw [hD]; exact True.intro) hs ⟨q, hq⟩ ⟨hl, hd, _, kp, q, es, ep, hq, h2, h3, h4, h5⟩
/-- {k: v for target in iter if ..}: D the new dict -/
def tDcA (t : Bool) (wi : TI) (g : TG) (tt : TT) (tk tv : TE) (vs : List Nat) : TE := fun σ H Q => wi σ H fun J H1 => ∀ D, H1 D = none → ∃ W : Nat → Nat → Hp → Prop, (∃ m, W 0 m (upd H1 D (dE t))) ∧ ∀ i m H, W i m H →
  (J.stop i H ∧ Q (.ref D) H) ∨ (J.go i H ∧ ∃ Nx : Hp → Prop, (∀ H', Nx H' → ∃ m', m' < m ∧ W (i + 1) m' H') ∧ ∀ x H', J.yld i H x H' → g x (wipe σ vs) H' fun σ2 H2 => wipe σ2 vs = wipe σ vs ∧ tt σ2 H2 fun b H3 =>
    if b = true then tk σ2 H3 fun y H4 => tv σ2 H4 fun z H5 => ∃ H6, DPut H5 D y z H6 ∧ Nx H6 else Nx H3)
omit [Tables] in
theorem dcA_core {t : Bool} {pins : List (Addr × Obj)} {s0 : Shared} {σ : St} {H0 : Hp} {Q : VK} {ke ve tge ite : Expr} {cs : List Expr} {sco : Scope} {ow : List (Str × Nat)} {ps ps' : Pos} {wi : TI} {g : TG} {tt : TT} {tk tv : TE} {use : Option (Value → Sem Unit)} {Qf : Value → Shared → Prop}
    (hu : X.A.units + 1 < cLine) (calm : X.calm = true) (nod : X.N.Nodup) (J0 : Inv X pins σ H0 s0) (pit : L2.PI X tge ite wi) (bok : BlkOk X.N X.env.scope sco ow)
    (pg : ∀ (s : Shared) (H : Hp) (C : Addr) (cl : List (Str × Addr)) (fp : List Addr), PG (X.blk s H sco (compEnvC sco cl C X.env) fp) tge g) (pt : ∀ (s : Shared) (H : Hp) (C : Addr) (cl : List (Str × Addr)) (fp : List Addr), PTs (X.blk s H sco (compEnvC sco cl C X.env) fp) cs tt)
    (pk : ∀ (s : Shared) (H : Hp) (C : Addr) (cl : List (Str × Addr)) (fp : List Addr), PE (X.blk s H sco (compEnvC sco cl C X.env) fp) ke tk)
    (pv : ∀ (s : Shared) (H : Hp) (C : Addr) (cl : List (Str × Addr)) (fp : List Addr), PE (X.blk s H sco (compEnvC sco cl C X.env) fp) ve tv) (fold : ∀ x, foldedSetIterable ite X.env x = pure x)
    (rd : tDcA t wi g tt tk tv (ow.map (·.2)) σ H0 Q)
    (fin : ∀ D C s' m H', Inv X pins σ H' s' → Q (.ref D) H' → s'.heap.Ns C m → FpOk X pins H' C → compPost (model X.prog X.w) X.A X.xe use Qf (.ref D) C (.ok .next) s') :
    wpAny (model X.prog X.w) X.A (comprehension (.DictComp ke ve [⟨tge, ite, cs, 0⟩] sco ps) sco X.env ps' newDict false (eval ite X.env) use) Qf X.xe s0 := by
  have caps : ∀ y ∈ sco.names, y.2 = .free → ∃ c, X.env.cells.lookup y.1 = some c := fun y hy e => (bok.free y hy e).elim (fun k => J0.ok.has _ (.inl k)) fun k => J0.ok.has _ (.inr k)
  refine wpAny_comprehension_free (use := use) rfl fold (closure_ok caps) bok.kind (fun y hy e => by rw [bok.uniq y hy, e]) (thn (pit.run pins s0 σ H0 _ J0 rd) fun xv sA hx => thn hx fun itv sB hB => ?_)
  obtain ⟨it, fp, tn, J, HB, eit, JB, T, stB, fpB, q0⟩ := hB
  subst eit
  refine wpAny_newObj_type (newEnv_comp ?_)
  generalize eD : sB.heap.objs.size = D
  have nD : HB D = none := JB.hok.fresh (Nat.le_of_eq eD)
  obtain ⟨W, ⟨m0, w0⟩, turn⟩ := q0 D nD
  generalize eC : ({ sB with heap := sB.heap.push { cls := .type "dict", data := .dict #[] } } : Shared) = sC
  have hC : sC.heap = sB.heap.push { cls := .type "dict", data := .dict #[] } := by rw [← eC]
  have JC : Inv X pins σ (upd HB D (dE t)) sC := by
    rw [← eC]
    refine JB.laid (t' := sB.toks) (fun b o e => Heap.get?_push_of_some _ e) (Nat.le_of_eq eD) ?_
    rw [← eD]
    exact dE_empty t sB.heap JB.big
  have small : ∀ b ∈ fp, b < sB.heap.objs.size := fun b hb => by obtain ⟨o, e, _⟩ := T.obj _ _ stB b hb; exact Heap.lt_size e
  have fpC : ∀ b ∈ fp, FpOk X pins (upd HB D (dE t)) b ∧ b < sC.heap.objs.size := fun b hb =>
    ⟨⟨(upd_ne (fun z => Nat.lt_irrefl D (by have := small b hb; rw [eD, z] at this; exact this))).trans (fpB b hb).1, (fpB b hb).2⟩, by rw [hC, Heap.size_push]; exact Nat.lt_succ_of_lt (small b hb)⟩
  have stC : tn 0 sC.heap := T.keep _ _ _ stB fun b _ o e => by rw [hC]; exact Heap.get?_push_of_some _ e
  have blk := block_start JC bok nod fpC
  have pg := pg sC (upd HB D (dE t)) sC.heap.objs.size (cellsFrom (sC.heap.objs.size + 1) sco.names (cloFrom X.env.cells sco.names [])) fp
  have pt := pt sC (upd HB D (dE t)) sC.heap.objs.size (cellsFrom (sC.heap.objs.size + 1) sco.names (cloFrom X.env.cells sco.names [])) fp
  have pk := pk sC (upd HB D (dE t)) sC.heap.objs.size (cellsFrom (sC.heap.objs.size + 1) sco.names (cloFrom X.env.cells sco.names [])) fp
  have pv := pv sC (upd HB D (dE t)) sC.heap.objs.size (cellsFrom (sC.heap.objs.size + 1) sco.names (cloFrom X.env.cells sco.names [])) fp
  show codeAny _ _ (.compStart (.DictComp ke ve [⟨tge, ite, cs, 0⟩] sco ps) 0 (.ref it) (.ref D) (compEnvC sco (cellsFrom (sC.heap.objs.size + 1) sco.names (cloFrom X.env.cells sco.names [])) sC.heap.objs.size X.env)) (compPost (model X.prog X.w) X.A X.xe use Qf (.ref D) sC.heap.objs.size) { sC with heap := pushCells (sC.heap.push { cls := .type "dict", data := .dict #[] }) sco.names }
  have off : ∀ b ∈ fp, (upd HB D (dE t)) b = none := fun b hb => (fpC b hb).1.1
  generalize eE : compEnvC sco (cellsFrom (sC.heap.objs.size + 1) sco.names (cloFrom X.env.cells sco.names [])) sC.heap.objs.size X.env = en at blk pg pt pk pv ⊢
  have enL : en.locals = sC.heap.objs.size := by subst eE; rfl
  generalize eHC : upd HB D (dE t) = HC at JC blk pg pt pk pv w0 off fpC
  generalize eS : ({ sC with heap := pushCells (sC.heap.push { cls := .type "dict", data := .dict #[] }) sco.names } : Shared) = sD at blk ⊢
  have stD : tn 0 sD.heap := T.keep _ _ _ stC fun b _ o e => by rw [← eS]; exact pushCells_keeps _ _ _ _ (Heap.get?_push_of_some _ e)
  have foot : ∀ {σ' : St} {H' : Hp} {s' : Shared}, Inv (X.blk sC HC sco en fp) [] σ' H' s' → (∀ b ∈ fp, H' b = none) → ∀ b ∈ fp, FpOk (X.blk sC HC sco en fp) [] H' b := fun {σ' H' s'} I' hn b hb =>
    ⟨hn b hb, (I'.ok.exf b hb).1, I'.ok.exfs b hb, .inl hb, fun x c e => (I'.ok.exf b hb).2 x c e, fun p hp => absurd (show p ∈ ([] : List (Addr × Obj)) ++ [] from hp) (by simp)⟩
  have loop : codeAny (model X.prog X.w) X.A (.compLoop (.DictComp ke ve [⟨tge, ite, cs, 0⟩] sco ps) 0 (.ref it) (.ref D) en) (compPost (model X.prog X.w) X.A X.xe use Qf (.ref D) sC.heap.objs.size) sD := by
    refine compLoop_anyD (fun n s' => ∃ i H', Inv (X.blk sC HC sco en fp) [] (wipe σ (ow.map (·.2))) H' s' ∧ tn i s'.heap ∧ (∀ b ∈ fp, H' b = none) ∧ W i n H') ?_ m0 ⟨0, HC, blk, stD, off, w0⟩
    rintro n sF ⟨i, HF, JF, stF, offF, wF⟩
    rcases turn i n HF wF with ⟨stop, qq⟩ | ⟨go, Nx, hNx, step⟩
    · refine thnF (T.done (X.blk sC HC sco en fp) rfl rfl rfl calm i [] sF _ HF (fun _ _ => False) JF (foot JF offF) stF stop) fun r sG ⟨hr, JG⟩ => ?_
      subst hr
      have back : Inv X pins σ HF sG := JC.call' (ch := fp) JG.os JG.base JG.hok JG.bare fun b hb => ⟨(fpC b hb).1.2.2.2.1, (fpC b hb).1.2.1, (fpC b hb).1.2.2.2.2.1, (fpC b hb).1.2.2.2.2.2⟩
      have noC : HF sC.heap.objs.size = none := by
        rw [← enL]; exact JG.free
      obtain ⟨m, hn, _⟩ := JG.loc
      have hn : sG.heap.Ns en.locals m := hn
      rw [enL] at hn
      exact fin D sC.heap.objs.size sG m HF back qq hn (JC.fpOk (Nat.le_refl _) noC)
    · refine thnF (T.item (X.blk sC HC sco en fp) rfl rfl rfl calm i [] sF _ HF (fun _ _ => False) JF (foot JF offF) stF go) fun r sG ⟨u, hr, hG⟩ => ?_
      subst hr
      refine thnF hG fun _ sK ⟨x, HK, JK, rK, yK, stK, offK⟩ => ?_
      have JK' := JK.pinned (foot JK offK) (T.obj _ _ stK)
      refine thnF (pg.run _ sK _ HK x u _ JK' rK (step x HK yK)) fun _ sL ⟨σL, HL, JL, hw, qL⟩ => thnF (pt.run _ sL σL HL _ JL qL) fun b sM ⟨HM, JM, qM⟩ => ?_
      have close : ∀ {s' : Shared} {H' : Hp}, Inv (X.blk sC HC sco en fp) ([] ++ pinsAt fp sK.heap) σL H' s' → Nx H' → ∃ m, m < n ∧ ∃ i H', Inv (X.blk sC HC sco en fp) [] (wipe σ (ow.map (·.2))) H' s' ∧ tn i s'.heap ∧ (∀ b ∈ fp, H' b = none) ∧ W i m H' := fun {s' H'} I' nx => by
        obtain ⟨m', hm, w'⟩ := hNx H' nx
        have held : ∀ b ∈ fp, ∀ o, sK.heap.get? b = some o → s'.heap.get? b = some o ∧ H' b = none := fun b hb o e => by
          have z := I'.pin (b, o) (List.mem_append_right _ (List.mem_append_right _ (mem_pinsAt hb e)))
          exact ⟨z.1, z.2.1⟩
        refine ⟨m', hm, i + 1, H', (I'.unpinned (pins := [])).weak (by rw [← hw, wipe_length]) (fun j v e => (wipe_some (by rw [← hw] at e; exact e)).1), T.keep _ _ _ stK fun b hb o e => (held b hb o e).1, fun b hb => ?_, w'⟩
        obtain ⟨o, e, _⟩ := T.obj _ _ stK b hb
        exact (held b hb o e).2
      cases b with
      | false =>
        simp only [Bool.false_eq_true, if_false] at qM ⊢
        exact close JM qM
      | true =>
        simp only [if_true] at qM ⊢
        refine thnF (pk.run _ sM σL HM _ JM qM) fun kv sN ⟨yk, HN, JN, rN, qN⟩ => thnF (pv.run _ sN σL HN _ JN qN) fun vv sO ⟨yv, HO, JO, rO, H6, put, nx⟩ => ?_
        exact dset_any (X := X.blk sC HC sco en fp) hu JO put rN rO fun sP JP => close JP nx
  exact codeAny_compStart_dict loop (T.self X.A 0 _ _ _ stD loop)
omit [Tables] in
theorem pe_dcA {t : Bool} {ke ve tge ite : Expr} {cs : List Expr} {sco : Scope} {ow : List (Str × Nat)} {ps : Pos} {wi : TI} {g : TG} {tt : TT} {tk tv : TE} (hu : X.A.units + 1 < cLine) (calm : X.calm = true) (nod : X.N.Nodup) (pit : L2.PI X tge ite wi) (bok : BlkOk X.N X.env.scope sco ow)
    (pg : ∀ (s : Shared) (H : Hp) (C : Addr) (cl : List (Str × Addr)) (fp : List Addr), PG (X.blk s H sco (compEnvC sco cl C X.env) fp) tge g) (pt : ∀ (s : Shared) (H : Hp) (C : Addr) (cl : List (Str × Addr)) (fp : List Addr), PTs (X.blk s H sco (compEnvC sco cl C X.env) fp) cs tt)
    (pk : ∀ (s : Shared) (H : Hp) (C : Addr) (cl : List (Str × Addr)) (fp : List Addr), PE (X.blk s H sco (compEnvC sco cl C X.env) fp) ke tk)
    (pv : ∀ (s : Shared) (H : Hp) (C : Addr) (cl : List (Str × Addr)) (fp : List Addr), PE (X.blk s H sco (compEnvC sco cl C X.env) fp) ve tv) (fold : ∀ x, foldedSetIterable ite X.env x = pure x := by intro _; rfl) :
    PE X (.DictComp ke ve [⟨tge, ite, cs, 0⟩] sco ps) (tDcA t wi g tt tk tv (ow.map (·.2))) := by
  refine ⟨fun pins s σ H Q J rd => ?_⟩
  rw [arm_eval_DictComp]
  refine dcA_core hu calm nod J pit bok pg pt pk pv fold rd fun D C s' m H' J' q hn ⟨f0, f1, f2, f3, f4, f5⟩ => ⟨m, hn, fun h'' sb => ?_⟩
  exact ⟨.ref D, H', J'.turned (t' := s'.toks) (fun b o hb e => (sb.2 b hb).trans e) f0 f1 f3 f4 f5, rfl, q⟩
end
end PI
set_option autoImplicit false
set_option Elab.async false
set_option linter.all false
set_option maxRecDepth 100000
set_option autoImplicit false
/-! Pi30: the combinator of dict comprehensions. -/
namespace PI
open PySem PySem.Spec PyProof.Rows L2
open R (RD_bnd)
/-- a key that has been reckoned -/
def shD : RV → R D
  | .sh d => .ok d
  | _ => .bad
def dcompL (t : Bool) (tg : FG) (ts : FT) (kx vx : FE) (own : List Nat) : List D → Env → List (D × D) → R (List (D × D) × Env)
  | [], env, acc => .ok (acc, env)
  | x :: xs, env, acc => (tg x env).nox.bnd fun e1 => (ts e1).bnd fun b => if b.1 then
      (kx b.2).bnd fun k => (shD k.1).bnd fun kd => (vx k.2).bnd fun v => (fz v.2 v.1).bnd fun y => if okKey t kd = true ∧ acc.length < 16777216 then dcompL t tg ts kx vx own xs (wipeE y.2 own) (putD acc kd y.1) else .bad
    else dcompL t tg ts kx vx own xs (wipeE b.2 own) acc
def fDComp (t : Bool) (own : List Nat) (fi : FI) (tg : FG) (ts : FT) (kx vx : FE) : FE := fun env =>
  (fi env).bnd fun z => (dcompL t tg ts kx vx own z.1 (wipeE z.2 own) []).nox.bnd fun o => .ok (.fr (.dct t o.1), backE z.2 o.2 own)
section
variable [Tables] {E' : XE} {S : Fm} {t : Bool} {tg : FG} {ts : FT} {kx vx : FE} {own : List Nat}
omit [Tables] in
theorem shD_ok {r : RV} {d : D} (h : shD r = .ok d) : r = .sh d := by
  cases r with
  | sh _ => cases h; rfl
  | _ => cases h
omit [Tables] in
theorem OCR.putd {Hs : Hp} {acc : List (D × D)} {o0 : HO} {H : Hp} {p : Addr} {y z : V} {kd vd : D} (hr : OCR Hs (.dct t acc) o0) (hp : H p = some o0) (sub : Same Hs H) (hk : okKey t kd = true) (hl : acc.length < 16777216) (dk : Dq Hs y kd) (dv : Dq Hs z vd) :
    ∃ o1, DPut H p y z (upd H p o1) ∧ OCR Hs (.dct t (putD acc kd vd)) o1 := by
  have hlt : acc.length < sizeLine := by rw [sizeL]; exact hl
  cases t with
  | false =>
    obtain ⟨k, rfl⟩ := okKey_K hk
    obtain ⟨ks, rfl, hsz, hd⟩ := hr
    have hw : y = kV k := kV_of dk
    exact ⟨_, .inl ⟨ks, k, hp, hw, by rw [hd.length]; exact hlt, rfl⟩, putK ks k z, rfl, by have := length_putK ks k z; rw [hd.length] at this; omega, hd.put k dv⟩
  | true =>
    obtain ⟨k, rfl⟩ := okKey_T hk
    obtain ⟨ks, rfl, hsz, hd⟩ := hr
    obtain ⟨b, rfl, hb, hz3⟩ := kT_of dk
    exact ⟨_, .inr ⟨ks, k, b, hp, rfl, sub _ _ hb, by rw [hd.length]; exact hlt, rfl⟩, putK ks k z, rfl, by have := length_putK ks k z; rw [hd.length] at this; omega, hd.put k hz3 dv⟩
theorem turn_dc {Hs H : Hp} {σ : St} {env : Env} {L0 : Addr} {o0 : HO} {acc : List (D × D)} {ds : List D} {o : List (D × D) × Env} {vt : List Nat} {x : V} {d : D} {Nx : Hp → Prop}
    (hvt : ∀ i ∈ vt, i ∈ own) (hF : S.Fr L0 = none) (ok : Ok (S.bar L0 o0) Hs H (wipe σ own) env) (hr : OCR Hs (.dct t acc) o0) (hx : Dq Hs x d)
    (e : dcompL t tg ts kx vx own (d :: ds) env acc = .ok o)
    (nx : ∀ Hs' H' env' acc' o', Same Hs Hs' → Ok (S.bar L0 o') Hs' H' (wipe σ own) env' → OCR Hs' (.dct t acc') o' → dcompL t tg ts kx vx own ds env' acc' = .ok o → Nx H') :
    gI vt tg x (wipe σ own) H fun σ2 H2 => wipe σ2 own = wipe σ own ∧ bI E' ts σ2 H2 fun b H3 => if b = true then tI E' kx σ2 H3 fun y H4 => tI E' vx σ2 H4 fun z H5 => ∃ H6, DPut H5 L0 y z H6 ∧ Nx H6 else Nx H3 := by
  unfold dcompL at e
  obtain ⟨e1, h1, e⟩ := bnd_ok_inv e
  obtain ⟨b, h2, e⟩ := bnd_ok_inv e
  refine ⟨S.bar L0 o0, Hs, env, d, e1, ok, hx, nox_ok_of h1, fun σ2 ok2 l2 f2 => ?_⟩
  have hw : wipe σ2 own = wipe σ own := (wipe_eq l2 fun j hj => f2 j fun z => hj (hvt j z)).trans (wipe_wipe own)
  refine ⟨hw, S.bar L0 o0, Hs, e1, ok2, ?_⟩
  rw [h2]
  intro Hs3 H3 s3 o3
  obtain ⟨b, e2⟩ := b
  cases b with
  | false =>
    simp only [Bool.false_eq_true, if_false] at e ⊢
    exact nx Hs3 H3 _ acc o0 s3 (by rw [← hw]; exact o3.wiped own) (hr.mono s3) e
  | true =>
    simp only [if_true] at e ⊢
    obtain ⟨⟨k1, e3⟩, h4, e⟩ := bnd_ok_inv e
    obtain ⟨kd, h5, e⟩ := bnd_ok_inv e
    obtain rfl := shD_ok h5
    obtain ⟨v, h6, eA⟩ := bnd_ok_inv e
    obtain ⟨y, h7, eB⟩ := bnd_ok_inv eA
    refine ⟨S.bar L0 o0, Hs3, e2, o3, ?_⟩
    rw [h4]
    intro ky Hs4 H4 s4 o4 r4
    refine ⟨S.bar L0 o0, Hs4, e3, o4, ?_⟩
    rw [h6]
    intro vy Hs5 H5 s5 o5 r5
    obtain ⟨Hs6, s6, o6, d6⟩ := o5.fzd r5 h7
    by_cases hk : okKey t kd = true ∧ acc.length < 16777216
    · simp only [if_pos hk] at eB
      have hnt : isTp o0 = false := hr.ntp
      have hD := (o6.unbar hF hnt).2.1
      have s := (s3.trans s4).trans (s5.trans s6)
      obtain ⟨o1, p1, p2⟩ := (hr.mono s).putd hD o6.sub hk.1 hk.2 ((show Dq Hs4 ky kd from r4).mono (s5.trans s6)) d6
      exact ⟨_, p1, nx Hs6 _ _ _ o1 s (by rw [← hw]; exact (o6.rebar hF hnt hr.nx (notX_tb p2.nx)).wiped own) p2 eB⟩
    · simp only [if_neg hk] at eB
      cases eB
end
section
variable [Tables] {X : Cx} {E E' : XE}
theorem dcI {t : Bool} {fi : FI} {tg : FG} {ts : FT} {kx vx : FE} {own vt : List Nat} (hvt : ∀ i ∈ vt, i ∈ own) {σ : St} {H : Hp} {Q : VK} (h : tI E (fDComp t own fi tg ts kx vx) σ H Q) :
    tDcA t (iI E fi) (gI vt tg) (bI E' ts) (tI E' kx) (tI E' vx) own σ H Q := by
  obtain ⟨S, Hs, env, ok, h⟩ := h
  refine iI.mono (bindI ok h) fun J H1 ⟨Hs1, z, s1, ok1, hlen, src, q⟩ => ?_
  obtain ⟨o, e, q⟩ := RD.inv (nox_nox _) q
  have e := nox_ok_of e
  intro D hD
  obtain ⟨f1, f2, f3, f4⟩ := ok1.free hD
  refine ⟨fun i m H' => m = z.1.length - i ∧ i ≤ z.1.length ∧ ∃ Hs' env' acc o0, Same Hs1 Hs' ∧ Ok (S.bar D o0) Hs' H' (wipe σ own) env' ∧ OCR Hs' (.dct t acc) o0 ∧ dcompL t tg ts kx vx own (z.1.drop i) env' acc = .ok o, ⟨z.1.length, by simp, Nat.zero_le _, Hs1, _, [], dE t, Same.refl _, ?_, dE_ocr t, e⟩, ?_⟩
  · exact Ok.bar ((ok1.alloc hD).wiped own) upd_same f1 f2 f3 (fun j k c e z => by
      have w := (ok1.wiped own).slot j _ e
      obtain ⟨p, e1, hO⟩ := w
      rw [z] at e1; cases e1
      obtain ⟨_, ho, _⟩ := hO.2.2.1
      rw [hD] at ho; cases ho) (notX_tb (dE_ocr (Hs := Hs1) t).nx)
  · rintro i m H' ⟨rfl, hi, Hs', env', acc, o0, s', ok', hr, e'⟩
    by_cases hlt : i < z.1.length
    · have hd : z.1[i]? = some z.1[i] := List.getElem?_eq_getElem hlt
      rw [drop_cons hlt] at e'
      refine .inr ⟨((src i H' (s'.trans ok'.sub)).1 _ hd).1, fun H2 => z.1.length - (i + 1) = z.1.length - (i + 1) ∧ i + 1 ≤ z.1.length ∧ ∃ Hs' env' acc o0, Same Hs1 Hs' ∧ Ok (S.bar D o0) Hs' H2 (wipe σ own) env' ∧ OCR Hs' (.dct t acc) o0 ∧ dcompL t tg ts kx vx own (z.1.drop (i + 1)) env' acc = .ok o, fun H2 w => ⟨_, by omega, w⟩, fun x H2 y => ?_⟩
      obtain ⟨Hs2, s2, ok2, dx⟩ := src_step src s' ok' hd y
      exact turn_dc hvt f2 ok2 (hr.mono s2) dx e' (fun Hs3 H3 env3 acc3 o3 s3 ok3 h3 e3 => ⟨rfl, hlt, Hs3, env3, acc3, o3, (s'.trans s2).trans s3, ok3, h3, e3⟩)
    · have hi' : i = z.1.length := by omega
      subst hi'
      rw [List.drop_length] at e'
      unfold dcompL at e'
      cases e'
      refine .inl ⟨(src _ H' (s'.trans ok'.sub)).2 (Nat.le_refl _), ?_⟩
      obtain ⟨ok2, g1, g2, g3, g4⟩ := ok'.unbar f2 hr.ntp
      obtain ⟨ok3, ns⟩ := ok1.backed s' ok2
      exact q (.ref D) Hs' H' (s1.trans s') ok3 ⟨D, rfl, ⟨g2, f2, ⟨_, g1, hr⟩, fun _ => g3, fun z => nomatch z⟩, ns D g4⟩
theorem ge_dc {t : Bool} {ke ve tg iter : Expr} {ifs : List Expr} {scope : Scope} {own : List (Str × Nat)} {pos : Pos} {fi : FI} {ftg : FG} {ts : FT} {kx vx : FE} {vt : List Nat} (hu : X.A.units + 1 < cLine) (hc : X.calm = true) (hN : X.N.Nodup) (hi : GI X E tg iter fi) (ok : BlkOk X.N X.env.scope scope own) (hvt : ∀ i ∈ vt, i ∈ own.map (·.2))
    (hg : ∀ (s : Shared) (H : Hp) (C : Addr) (cl : List (Str × Addr)) (fp : List Addr), GG (X.blk s H scope (compEnvC scope cl C X.env) fp) tg vt ftg) (ht : ∀ (s : Shared) (H : Hp) (C : Addr) (cl : List (Str × Addr)) (fp : List Addr), GTs (X.blk s H scope (compEnvC scope cl C X.env) fp) E' ifs ts)
    (hk : ∀ (s : Shared) (H : Hp) (C : Addr) (cl : List (Str × Addr)) (fp : List Addr), GE (X.blk s H scope (compEnvC scope cl C X.env) fp) E' ke kx)
    (he : ∀ (s : Shared) (H : Hp) (C : Addr) (cl : List (Str × Addr)) (fp : List Addr), GE (X.blk s H scope (compEnvC scope cl C X.env) fp) E' ve vx) (hs : ∀ x, foldedSetIterable iter X.env x = pure x := by intro _; rfl) :
    GE X E (.DictComp ke ve [⟨tg, iter, ifs, 0⟩] scope pos) (fDComp t (own.map (·.2)) fi ftg ts kx vx) := PE.imp (pe_dcA hu hc hN hi ok hg ht hk he hs) fun σ H Q h => dcI hvt h
omit [Tables] in
theorem ps_setDcA {t : Bool} {i : Nat} {y : Str} {py : Pos} {ke ve tge ite : Expr} {cs : List Expr} {sco : Scope} {ow : List (Str × Nat)} {pos spos : Pos} {wi : TI} {g : TG} {tt : TT} {tk tv : TE} (hu : X.A.units + 1 < cLine) (calm : X.calm = true) (nod : X.N.Nodup) (hy : X.N[i]? = some y) (hyl : X.env.scope.names.lookup y = some .local)
    (hsw : swapsWith (.DictComp ke ve [⟨tge, ite, cs, 0⟩] sco pos) (some (.Name y py)) spos.line X.env = pure true) (pit : L2.PI X tge ite wi) (bok : BlkOk X.N X.env.scope sco ow)
    (pg : ∀ (s : Shared) (H : Hp) (C : Addr) (cl : List (Str × Addr)) (fp : List Addr), PG (X.blk s H sco (compEnvC sco cl C X.env) fp) tge g) (pt : ∀ (s : Shared) (H : Hp) (C : Addr) (cl : List (Str × Addr)) (fp : List Addr), PTs (X.blk s H sco (compEnvC sco cl C X.env) fp) cs tt)
    (pk : ∀ (s : Shared) (H : Hp) (C : Addr) (cl : List (Str × Addr)) (fp : List Addr), PE (X.blk s H sco (compEnvC sco cl C X.env) fp) ke tk)
    (pv : ∀ (s : Shared) (H : Hp) (C : Addr) (cl : List (Str × Addr)) (fp : List Addr), PE (X.blk s H sco (compEnvC sco cl C X.env) fp) ve tv) (fold : ∀ x, foldedSetIterable ite X.env x = pure x := by intro _; rfl) :
    PS X (.Assign [.Name y py] (.DictComp ke ve [⟨tge, ite, cs, 0⟩] sco pos) spos) (tAsg (tDcA t wi g tt tk tv (ow.map (·.2))) (L2.gName i)) := by
  refine ⟨fun pins s σ H De J rd => ?_⟩
  rw [exec_Assign_Name_used _ _ _ _ hsw]
  refine wpAny_bind (wpAny_standAt (wpAny_bind ?_))
  show wpAny _ X.A (do let _ ← comprehension (.DictComp ke ve [⟨tge, ite, cs, 0⟩] sco pos) sco X.env (firstIterPos [⟨tge, ite, cs, 0⟩] pos) newDict false (eval ite X.env) (some (assign (.Name y py) X.env))) _ _ s
  refine wpAny_bind (thn (dcA_core (Qf := fun _ s' => SP X pins De .next s') hu calm nod J pit bok pg pt pk pv fold (show tDcA t wi g tt tk tv (ow.map (·.2)) σ H (fun x H1 => L2.gName i x σ H1 De.nx) from rd) fun D C s' m H' J' q hn ⟨f0, f1, f2, f3, f4, f5⟩ => ?_) fun _ s' hq => wpAny_pure (wpAny_pure hq))
  show wpAny _ _ (assign (.Name y py) X.env (.ref D)) _ _ _
  refine wpAny_assign_Name (store_ok2 (v := V.ref D) J' nod hy (.inl hyl) rfl (fun s2 J2 ⟨a, sb, ha⟩ => ?_) (.inr hyl))
  have apart : C ≠ a := ha.elim (fun z => by rw [z]; exact f1) fun z e => f4 y a z e.symm
  exact ⟨m, hn.sameBut sb apart, fun h3 sb3 => ⟨_, H', J2.turned (t' := s2.toks) (fun b o hb e => (sb3.2 b hb).trans e) f0 f1 f3 f4 f5, q⟩⟩
omit [Tables] in
theorem swd_true {ke ve : Expr} {gs : List Comprehension} {scope : Scope} {pos py : Pos} {y : Str} {l : Nat} {env : PySem.Env} (hk : env.scope.kind = .function) (hy : env.scope.names.lookup y = some .local) (hl : (py.line == pos.line) = true)
    (ha : (scope.names.any fun (n, k) => n == y && (k == .local || k == .cell)) = false) : swapsWith (.DictComp ke ve gs scope pos) (some (.Name y py)) l env = pure true := by
  unfold swapsWith
  simp only [show env.blockKind = .function by unfold Env.blockKind; rw [hk]; rfl, show env.kindOf y = some .local from hy, ha, Expr.pos, hl]
  rfl
theorem gs_setDc {t : Bool} (i : Nat) {y : Str} {py : Pos} {ke ve tg iter : Expr} {ifs : List Expr} {scope : Scope} {own : List (Str × Nat)} {pos spos : Pos} {fi : FI} {ftg : FG} {ts : FT} {kx vx : FE} {vt : List Nat} (hu : X.A.units + 1 < cLine) (hc : X.calm = true) (hN : X.N.Nodup) (hy : X.N[i]? = some y) (hyl : X.env.scope.names.lookup y = some .local)
    (hsw : swapsWith (.DictComp ke ve [⟨tg, iter, ifs, 0⟩] scope pos) (some (.Name y py)) spos.line X.env = pure true) (hi : GI X E tg iter fi) (ok : BlkOk X.N X.env.scope scope own) (hvt : ∀ i ∈ vt, i ∈ own.map (·.2))
    (hg : ∀ (s : Shared) (H : Hp) (C : Addr) (cl : List (Str × Addr)) (fp : List Addr), GG (X.blk s H scope (compEnvC scope cl C X.env) fp) tg vt ftg) (ht : ∀ (s : Shared) (H : Hp) (C : Addr) (cl : List (Str × Addr)) (fp : List Addr), GTs (X.blk s H scope (compEnvC scope cl C X.env) fp) E' ifs ts)
    (hk : ∀ (s : Shared) (H : Hp) (C : Addr) (cl : List (Str × Addr)) (fp : List Addr), GE (X.blk s H scope (compEnvC scope cl C X.env) fp) E' ke kx)
    (he : ∀ (s : Shared) (H : Hp) (C : Addr) (cl : List (Str × Addr)) (fp : List Addr), GE (X.blk s H scope (compEnvC scope cl C X.env) fp) E' ve vx) (hs : ∀ x, foldedSetIterable iter X.env x = pure x := by intro _; rfl) :
    GS X E (.Assign [.Name y py] (.DictComp ke ve [⟨tg, iter, ifs, 0⟩] scope pos) spos) (sSetC i (fDComp t (own.map (·.2)) fi ftg ts kx vx)) := by
  refine PS.imp (ps_setDcA (t := t) hu hc hN hy hyl hsw hi ok hg ht hk he hs) fun De σ H h => ?_
  obtain ⟨S, Hs, env, ok, h⟩ := h
  refine dcI hvt (tI.mono (bindE ok h) fun v H1 ⟨Hs1, x, s1, o1, r1, q⟩ => ?_)
  obtain ⟨e, h1, q⟩ := RD.inv (fun _ => stow_nox _) q
  obtain ⟨Hs2, s2, o2⟩ := o1.stowed r1 h1
  exact q _ Hs2 H1 (s1.trans s2) o2
end
@[simp ↓] theorem v_dcomp (t : Bool) (own : List Nat) (fi : FI) (tg : FG) (ts : FT) (kx vx : FE) (env : Env) : fDComp t own fi tg ts kx vx env =
  (fi env).bnd fun z => (dcompL t tg ts kx vx own z.1 (wipeE z.2 own) []).nox.bnd fun o => .ok (.fr (.dct t o.1), backE z.2 o.2 own) := rfl
end PI
set_option autoImplicit false
set_option Elab.async false
set_option linter.all false
set_option maxRecDepth 100000
set_option autoImplicit false
/-! Pi31: list(d.values()). -/
namespace PI
open PySem PySem.Spec PyProof.Rows L2
open R (RD_bnd)
theorem vals_by : ∀ {us : List V} {its : List Value}, us.length = its.length → (∀ (i : Nat) (u : V), us[i]? = some u → ∃ r, its[i]? = some r ∧ RelV u r) → Vals us its
  | [], [], _, _ => .nil
  | [], _ :: _, h, _ => by cases h
  | _ :: _, [], h, _ => by cases h
  | u :: us, r :: its, h, g => by
    obtain ⟨r', e, q⟩ := g 0 u rfl
    cases (show some r = some r' from e)
    exact .cons q (vals_by (Nat.succ.inj h) fun i u e => by simpa using g (i + 1) u (by simpa using e))
/-- all values of a dict -/
def valsA (d : D) : R (List D) := match kvOf d with
  | some (_, kvs) => .ok (kvs.map (·.2))
  | none => .bad
theorem valsA_nox (d : D) : ∀ c, valsA d ≠ .exc c := by
  intro c h
  unfold valsA at h
  split at h <;> cases h
def fListVals (a : FE) : FE := fun env => (a env).bnd fun x => (rd x.2 (hold x.1)).bnd fun d => (valsA d).bnd fun ds => .ok (.fr (.lst ds), x.2)
theorem DqT.vals {Hs : Hp} : ∀ {ks : List (List Key × V)} {kvs : List (D × D)}, DqT Hs ks kvs → DqAll Hs (ks.map (·.2)) (kvs.map (·.2))
  | _, _, .nil => .nil
  | _, _, .cons _ h r => .cons h (DqT.vals r)
section
variable [Tables] {X : Cx} {pins : List (Addr × Obj)} {σ : St} {Hs H : Hp} {s : Shared}
omit [Tables] in
/-- a tracked dict's entries -/
theorem raw_vals {p : Addr} {t : Bool} {kvs : List (D × D)} (I : Inv X pins σ H s) (h : DctR Hs H p t kvs) :
    ∃ es ep us, s.heap.DictRaw p es ep ∧ (p == sysModules) = false ∧ es.size ≤ sizeLine ∧ Vals us (es.toList.map (·.val)) ∧ DqAll Hs us (kvs.map (·.2)) := by
  cases t with
  | false =>
    obtain ⟨ks, h1, h2⟩ := h
    obtain ⟨hz, hsys, vs, rel, dof⟩ := dk_rd I.hok h1
    obtain ⟨es, ep, raw, hsz, hent⟩ := dof.raw
    have lk : ks.length = vs.length := Paired.length rel
    refine ⟨es, ep, ks.map (·.2), raw, hsys, by omega, vals_by (by simp; omega) fun i u e => ?_, h2.vals⟩
    rw [List.getElem?_map, Option.map_eq_some_iff] at e
    obtain ⟨kv, e1, rfl⟩ := e
    obtain ⟨q, e2, e3⟩ := LiI.paired_get rel e1
    have hi : i < es.size := by have := (List.getElem?_eq_some_iff.mp e2).1; omega
    have := (hent i hi q.1 q.2 e2).2
    refine ⟨q.2, ?_, e3.2⟩
    rw [List.getElem?_map, ← this]
    simp [hi]
  | true =>
    obtain ⟨ks, h1, h2⟩ := h
    obtain ⟨hz, hsys, xs, rel, dof⟩ := dt_rd I.hok h1
    obtain ⟨es, ep, raw, hsz, hent⟩ := dof.raw
    have lk : ks.length = xs.length := Paired.length rel
    refine ⟨es, ep, ks.map (·.2), raw, hsys, by omega, vals_by (by simp; omega) fun i u e => ?_, h2.vals⟩
    rw [List.getElem?_map, Option.map_eq_some_iff] at e
    obtain ⟨kv, e1, rfl⟩ := e
    obtain ⟨q, e2, e3⟩ := LiI.paired_get rel e1
    have hi : i < es.size := by have := (List.getElem?_eq_some_iff.mp e2).1; omega
    obtain ⟨y, g1, _, g2, _⟩ := hent i hi
    rw [e2] at g1
    cases g1
    refine ⟨q.2.2, ?_, e3.2.2⟩
    rw [List.getElem?_map, ← g2]
    simp [hi]
end
section
variable [Tables] {X : Cx} {E : XE}
theorem ge_listVals {o : Expr} {fa : FE} {p pos apos mpos : Pos} (hc : X.calm = true) (hm : X.mg "list" = none) (he : GE X E o fa) (hg : Gl X "list" := by rfl) (hbase : attributeBase o "values" X.env (eval o X.env) = eval o X.env := by rfl) (hline : (apos.endLine == mpos.line) = true := by rfl)
    (hs : starEach [.Call (.Attribute o "values" apos) [] [] mpos] X.env = (false, eval (.Call (.Attribute o "values" apos) [] [] mpos) X.env) :: starEach [] X.env := by rfl) :
    GE X E (.Call (.Name "list" p) [.Call (.Attribute o "values" apos) [] [] mpos] [] pos) (fListVals fa) := by
  refine ⟨fun pins s σ H Q I ⟨S, Hs, env, ok, h⟩ => ?_⟩
  refine wpAny_Call_Name_kw (ld_blt I hg hm (u := .type "list") (by first | rfl | decide +kernel) ?_)
  refine PyProof.Rows.callWith_type1 ?_ hs rfl
  rw [hs]
  show wpAny _ _ (spliced ((false, eval (.Call (.Attribute o "values" apos) [] [] mpos) X.env) :: backTo pos (starEach [] X.env))) _ _ s
  refine Calls.spliced_cons (wpAny_Call_method (T := "dict") (id := "dict.values") hbase rfl hline F.plainAttrs_dict F.slot_dict_values F.type_dict_values (thn (he.run pins s σ H _ I (bindH ok h)) fun v s1 ⟨x, H1, I1, r1, Hs1, y, sm, o1, rv1, q⟩ => ?_))
  obtain ⟨d0, e0, q⟩ := RD.inv (rd_nox _ _) q
  obtain ⟨ds, e1, q⟩ := RD.inv (valsA_nox _) q
  have t0 := o1.rd rv1 e0
  unfold valsA at e1
  split at e1
  · rename_i t kvs hk
    cases e1
    obtain ⟨a, rfl, hd⟩ := t0.dct o1.sub hk
    obtain rfl : v = Value.ref a := r1
    obtain ⟨es, ep, us, raw, hsys, hsz, vl, dq⟩ := raw_vals I1 hd
    have raw' := raw
    obtain ⟨ob, ho, ex, hdat⟩ := raw'
    refine ⟨⟨ob, ho, ex.1⟩, fun b e => by cases e; exact ⟨ob, ho, ex.2.1⟩, ?_⟩
    show wpAny _ _ (callWith mpos (.builtin "dict.values") [.ref a] [] []) _ X.xe s1
    refine method_meetsIn F.slot_dict_values F.entry_dict_values rfl (PySem.evalArgs_none ⟨rfl, ⟨ob, ho, ex.1⟩, F.args_dict_values_1 _, _, PySem.meets_dict_values_raw a hsys, ⟨es, ep, raw⟩, ?_⟩)
    refine Calls.spliced_nil ?_
    have I2 : Inv X pins σ H1 { s1 with heap := s1.heap.push { cls := .type "dict_values", data := .fields #[.ref a] } } := I1.kept (t' := s1.toks) fun b ob q => Heap.get?_push_of_some _ q
    refine PySem.W.kdl_call (PySem.KdlSrc.rawValues (r := s1.heap.objs.size) (d := a) (es := es) (ep := ep)) (I1.ok.hd hc) ⟨⟨_, Heap.get?_push_size _ rfl, rfl, rfl⟩, raw.at fun o e => Heap.get?_push_of_some _ e⟩ hsz fun h' tk acc c hk hS hacc => ?_
    have nD : H1 (s1.heap.push { cls := .type "dict_values", data := .fields #[.ref a] }).objs.size = none := I2.hok.fresh (Nat.le_refl _)
    have eA : acc.toList = es.toList.map (·.val) := by
      refine List.ext_getElem? fun i => ?_
      by_cases hi : i < es.size
      · have hi2 : i < acc.size := by rw [hacc.1]; exact hi
        obtain ⟨hi', e⟩ := hacc.2 i acc[i] (by simp [hi2])
        simp [hi, hi2, e]
      · have hi2 : ¬ i < acc.size := by rw [hacc.1]; exact hi
        simp [hi, hi2]
    have J := I2.laid (t' := tk) (a := (s1.heap.push { cls := .type "dict_values", data := .fields #[.ref a] }).objs.size) (o := .lst us) hk (Nat.le_refl _) ⟨by have := Paired.length vl; simp at this; omega, acc.toList, c, by rw [eA]; exact vl, by rw [Array.toArray_toList]; exact hS⟩
    refine ⟨.ref _, _, J, rfl, q (.ref _) Hs1 _ sm (o1.alloc nD) ⟨_, rfl, o1.newOwn nD ⟨us, rfl, by have := Paired.length vl; simp at this; omega, dq⟩, (o1.free nD).2.2.2⟩⟩
  · cases e1
omit [Tables] in
@[simp ↓] theorem v_listVals (a : FE) (env : Env) : fListVals a env = (a env).bnd fun x => (rd x.2 (hold x.1)).bnd fun d => (valsA d).bnd fun ds => .ok (.fr (.lst ds), x.2) := rfl
end
end PI
set_option autoImplicit true
set_option Elab.async false
set_option linter.all false
set_option maxRecDepth 100000
/-! Pi32: dict comprehensions in plain words. -/
namespace PI
open PySem
def dcs (tg : FG) (ts : FT) (kx vx : FE) (own : List Nat) (x : D) (env : Env) : R (Option (D × D) × Env) :=
  (tg x env).nox.bnd fun e1 => (ts e1).bnd fun b => if b.1 then (kx b.2).bnd fun k => (shD k.1).bnd fun kd => (vx k.2).bnd fun v => (fz v.2 v.1).bnd fun y => .ok (some (kd, y.1), wipeE y.2 own) else .ok (none, wipeE b.2 own)
@[simp] theorem shD_s (d : D) : shD (.sh d) = .ok d := rfl
theorem dcompL_cs (t : Bool) (tg : FG) (ts : FT) (kx vx : FE) (own : List Nat) (x : D) (xs : List D) (env : Env) (acc : List (D × D)) : dcompL t tg ts kx vx own (x :: xs) env acc = (dcs tg ts kx vx own x env).bnd fun o => (match o.1 with
    | some q => if okKey t q.1 = true ∧ acc.length < 16777216 then dcompL t tg ts kx vx own xs o.2 (putD acc q.1 q.2) else .bad
    | none => dcompL t tg ts kx vx own xs o.2 acc) := by
  rw [dcompL, dcs]
  rw [R.bnd_assoc]; congr 1; funext e1
  rw [R.bnd_assoc]; congr 1; funext b
  split
  · rw [R.bnd_assoc]; congr 1; funext k
    rw [R.bnd_assoc]; congr 1; funext kd
    rw [R.bnd_assoc]; congr 1; funext v
    rw [R.bnd_assoc]; rfl
  · rfl
def putSel {κ β : Type} [DecidableEq κ] : List (Option (κ × β)) → List (κ × β) → List (κ × β)
  | [], acc => acc
  | none :: r, acc => putSel r acc
  | some q :: r, acc => putSel r (putA acc q.1 q.2)
theorem dcompL_put {κ β α : Type} [DecidableEq κ] {t : Bool} {tg : FG} {ts : FT} {kx vx : FE} {own : List Nat} {env : Env} {g : κ → D} (hg : KeyG g) (ok : ∀ k, okKey t (g k) = true) (f : β → D) (c : α → D) (sel : α → Option (κ × β)) :
    ∀ (xs : List α) (acc : List (κ × β)), (∀ a ∈ xs, dcs tg ts kx vx own (c a) env = .ok ((sel a).map fun q => (g q.1, f q.2), env)) → acc.length + xs.length ≤ 16777216 →
    dcompL t tg ts kx vx own (xs.map c) env (dK g f acc) = .ok (dK g f (putSel (xs.map sel) acc), env)
  | [], acc, _, _ => by simp [dcompL, putSel]
  | x :: xs, acc, h, hl => by
    rw [List.length_cons] at hl
    rw [List.map_cons, dcompL_cs, h x (by simp), R.bnd_ok]
    have ih := fun acc' hl' => dcompL_put hg ok f c sel xs acc' (fun a ha => h a (List.mem_cons_of_mem _ ha)) hl'
    cases e : sel x with
    | none =>
      simp only [Option.map_none]
      rw [ih acc (by omega), List.map_cons, e, putSel]
    | some q =>
      simp only [Option.map_some]
      rw [if_pos ⟨ok q.1, by rw [dK_len]; omega⟩, put_dK hg, ih _ (by have := putA_len acc q.1 q.2; omega), List.map_cons, e, putSel]
theorem putSel_new {κ β : Type} [DecidableEq κ] : ∀ (qs : List (κ × β)) (acc : List (κ × β)), (acc.map (·.1) ++ qs.map (·.1)).Nodup → putSel (qs.map some) acc = acc ++ qs
  | [], acc, _ => by simp [putSel]
  | q :: qs, acc, h => by
    have hk : q.1 ∉ acc.map (·.1) := fun z => (List.nodup_append.mp h).2.2 q.1 z q.1 (by simp) rfl
    rw [List.map_cons, putSel, show putA acc q.1 q.2 = acc ++ [(q.1, q.2)] by unfold putA; rw [if_neg hk], putSel_new qs _ (by simpa using h)]
    simp
theorem dcompL_new {κ β α : Type} [DecidableEq κ] {t : Bool} {tg : FG} {ts : FT} {kx vx : FE} {own : List Nat} {env : Env} {g : κ → D} (hg : KeyG g) (ok : ∀ k, okKey t (g k) = true) (f : β → D) (c : α → D) (q : α → κ × β)
    (xs : List α) (h : ∀ a ∈ xs, dcs tg ts kx vx own (c a) env = .ok (some (g (q a).1, f (q a).2), env)) (hl : xs.length ≤ 16777216) (nd : (xs.map fun a => (q a).1).Nodup) :
    dcompL t tg ts kx vx own (xs.map c) env [] = .ok (dK g f (xs.map q), env) := by
  have := dcompL_put hg ok f c (fun a => some (q a)) xs [] h (by simpa using hl)
  rw [dK_nil] at this
  rw [this]
  congr 2
  have e : xs.map (fun a => some (q a)) = (xs.map q).map some := by rw [List.map_map]; rfl
  rw [e, putSel_new _ _ (by simpa [List.map_map, Function.comp_def] using nd), List.nil_append]
/-! keys that are pairs of ints -/
def pT (p : Int × Int) : D := .tuple [.int p.1, .int p.2]
theorem keyG_pT : KeyG pT := fun a b => by
  unfold pT
  have := eqv_tt [a.1, a.2] [b.1, b.2]
  have e : ∀ x : Int × Int, PyData.tuple (iL [x.1, x.2]) = .tuple [.int x.1, .int x.2] := fun _ => rfl
  rw [e, e] at this
  rw [this]
  congr 1
  obtain ⟨a1, a2⟩ := a
  obtain ⟨b1, b2⟩ := b
  simp
theorem okKey_pT (p : Int × Int) : okKey true (pT p) = true := rfl
theorem valsA_T (kvs : List (D × D)) : valsA (.dict (mkD true kvs)) = .ok (kvs.map (·.2)) := rfl
end PI
set_option autoImplicit false
set_option Elab.async false
set_option linter.all false
set_option maxRecDepth 100000
set_option autoImplicit false
/-! Pi33: sorted(xs, key=lambda one: (len(one), one)). -/
namespace PI
open PySem PySem.Spec PyProof.Rows L2
open R (RD_bnd)
section
variable {prog : Program} {w : World} {A : Around} {E : Value → Shared → Prop} {s : Shared}
/-- (len(x), x), x the lambda's own name -/
theorem lenPair_eval {env : PySem.Env} {x : Str} {p1 p2 p3 p4 p5 : Pos} {j : Nat} {t : Addr} {its : Array Value} {m mg mb : Str → Option Value} {Q : Value → Shared → Prop}
    (hk : env.scope.kind = .function) (h1 : env.kindOf x = some .local) (h2 : env.kindOf "len" = some .globalImplicit) (hd : (x == ("__debug__" : Str)) = false) (hg : env.globals = mainGlobals) (hb : env.builtins = builtinsNs)
    (n1 : s.heap.Ns env.locals m) (m1 : m x = some (.ref t)) (n2 : s.heap.Ns mainGlobals mg) (m2 : mg "len" = none) (n3 : s.heap.Ns builtinsNs mb) (m3 : mb "len" = some (.builtin "len")) (ht : IsTup s.heap t its) (hz : its.size ≤ sizeLine)
    (h : ∀ k tk, Q (.ref s.heap.objs.size) { s with heap := s.heap.push { cls := .type "tuple", data := .seq #[.int its.size k, .ref t] }, toks := tk }) :
    wpAny (model prog w) A (eval (.Tuple [.Call (.Name "len" p1) [.Name x p2] [] p3, .Name x p4] j p5) env) Q E s := by
  have ldx : ∀ {s' : Shared} {p : Pos} {Q' : Value → Shared → Prop}, s'.heap = s.heap → Q' (.ref t) s' → wpAny (model prog w) A (eval (.Name x p) env) Q' E s' := fun {s' p Q'} e q =>
    wpAny_Name (wpAny_loadName_local hk h1 (by rw [e]; exact n1) m1 q) hd
  refine wpAny_Tuple_spliced ?_
  show wpAny _ _ (spliced [(false, eval (.Call (.Name "len" p1) [.Name x p2] [] p3) env), (false, eval (.Name x p4) env)]) _ _ s
  refine Calls.spliced_cons (wpAny_Call_Name_kw (Calls.Name_function_global hk h2 (Calls.loadGlobal_builtin (by rw [hg]; exact n2) m2 (by rw [hb]; exact n3) m3 ?_)))
  show wpAny _ _ (callWith p3 (.builtin "len") [] [(false, eval (.Name x p2) env)] []) _ _ s
  refine Calls.callWith_builtin rfl (Calls.evalArgs_plain (Calls.spliced_cons (ldx rfl (Calls.spliced_nil (len_tuple ht (by rw [sizeL] at hz; omega) ?_)))))
  refine Calls.spliced_cons (ldx rfl (Calls.spliced_nil ⟨by rw [sizeL]; show 2 ≤ 16777216; omega, ?_⟩))
  exact h _ _
/-- the lambda called -/
theorem lenPair_call {f c' t : Addr} {q x : Str} {params : Arguments} {p1 p2 p3 p4 p5 : Pos} {j : Nat} {scope : Scope} {pm ctv : Value} {its : Array Value} {mg mb : Str → Option Value} {ns : List Int}
    (hf : s.heap.get? f = some (PySem.W.kla_obj "<lambda>" q params (.Tuple [.Call (.Name "len" p1) [.Name x p2] [] p3, .Name x p4] j p5) scope [] pm c' ctv)) (hcd : s.heap.CodeRec (.ref c') q) (hroom : A.depth < recursionLimit) (hlim : s.heap.NoLimit)
    (hk : scope.kind = .function) (hco : scope.isCoroutine = false) (hgen : scope.isGenerator = false) (h1 : scope.names.lookup x = some .local) (h2 : scope.names.lookup ("len" : Str) = some .globalImplicit) (hcell : ∀ y ∈ scope.names, y.2 ≠ .cell) (hd : (x == ("__debug__" : Str)) = false)
    (hbind : bindArgs (PySem.W.kla_fn "<lambda>" q params (.Tuple [.Call (.Name "len" p1) [.Name x p2] [] p3, .Name x p4] j p5) scope [] pm (.ref c') ctv) ⟨[.ref t], []⟩ = pure [(x, .ref t)])
    (n2 : s.heap.Ns mainGlobals mg) (m2 : mg "len" = none) (n3 : s.heap.Ns builtinsNs mb) (m3 : mb "len" = some (.builtin "len")) (ht : IsTup s.heap t its) (hz : its.size ≤ sizeLine) (rd : Reads s.heap (.ref t) (.tuple (ns.map .int)) []) (hl : its.size = ns.length) :
    wpAny (model prog w) A (call (.ref f) [.ref t]) (PySem.W.KeyPure (.tuple [.int ns.length, .tuple (ns.map .int)]) s) E s := by
  refine wpAny_call (PySem.W.kla_callFunE hroom hf rfl hco hgen rfl hcd ?_)
  rw [hbind]
  refine wpAny_pure (wpAny_newFunctionEnv hcell (fun y hy => by rw [List.mem_singleton] at hy; subst hy; exact h1) (fun h₁ hns hsb => ⟨hlim.fresh _ hsb, ?_⟩) hk)
  have kp : ∀ b o, s.heap.get? b = some o → h₁.get? b = some o := fun b o e => hsb.extBut b o (Nat.ne_of_lt (Heap.lt_size e)) (Heap.get?_push_of_some _ e)
  show codeAny _ _ (.expr (.Tuple [.Call (.Name "len" p1) [.Name x p2] [] p3, .Name x p4] j p5) (PySem.W.envX q scope s.heap.objs.size f (.ref c') [])) _ _
  refine PySem.W.kla_codeExpr (lenPair_eval (s := { s with heap := h₁, toks := s.toks + ([(x, Value.ref t)] : List (Str × Value)).length }) (m := fun y => ([(x, Value.ref t)] : List (Str × Value)).reverse.lookup y) (mg := mg) (mb := mb) (its := its) hk h1 h2 hd rfl rfl hns (by simp) (n2.keeps kp) m2 (n3.keeps kp) m3 (let ⟨o, e, r⟩ := ht; ⟨o, kp _ _ e, r⟩) hz fun k tk => ?_)
  have rd' : Reads (h₁.push { cls := .type "tuple", data := .seq #[.int its.size k, .ref t] }) (.ref t) (.tuple (ns.map .int)) [] := PyProof.Rows.Reads.keeps (fun b o e => Heap.get?_push_of_some _ (kp b o e)) rd
  show PySem.W.KeyPure _ _ _ _
  have rd2 : Reads (h₁.push { cls := .type "tuple", data := .seq #[.int its.size k, .ref t] }) (.ref h₁.objs.size) (.tuple [.int ns.length, .tuple (ns.map .int)]) ([] ++ ([] ++ [])) :=
    .tuple (Heap.get?_push_size _ rfl) rfl rfl (.cons (by rw [← hl]; exact .int _ _) (.cons rd' .nil))
  exact ⟨_, tk, rfl, fun b o e => Heap.get?_push_of_some _ (kp b o e), rd2⟩
end
def isI : D → Bool
  | .int _ => true
  | _ => false
def isIntT : D → Bool
  | .tuple es => es.all isI
  | _ => false
theorem ints_of : ∀ {es : List D}, es.all isI = true → ∃ ns : List Int, es = ns.map .int
  | [], _ => ⟨[], rfl⟩
  | e :: es, h => by
    rw [List.all_cons, Bool.and_eq_true] at h
    obtain ⟨ns, rfl⟩ := ints_of h.2
    cases e with
    | int i => exact ⟨i :: ns, rfl⟩
    | _ => cases h.1
theorem isIntT_of {d : D} (h : isIntT d = true) : ∃ ns : List Int, d = .tuple (ns.map .int) := by
  cases d with
  | tuple es => obtain ⟨ns, rfl⟩ := ints_of (show es.all isI = true from h); exact ⟨ns, rfl⟩
  | _ => cases h
def keyLen : D → D
  | .tuple es => .tuple [.int es.length, .tuple es]
  | d => d
def sortLenD : D → R RV
  | .list ds => if ds.all isIntT = true then .ok (.fr (.lst (ds.mergeSort (PySem.W.dataLe false keyLen)))) else .bad
  | _ => .bad
theorem alike_intsA : ∀ ns ms : List Int, PySem.W.alikeAll (ns.map .int) (ms.map .int) = true
  | [], _ => by simp [PySem.W.alikeAll]
  | _ :: _, [] => by simp [PySem.W.alikeAll]
  | n :: ns, m :: ms => by
    rw [List.map_cons, List.map_cons, PySem.W.alikeAll, alike_intsA ns ms]
    simp [PySem.W.alike]
theorem keys_alike {ds : List D} (h : ds.all isIntT = true) : PySem.W.AllAlike (ds.map keyLen) := by
  intro d hd d' hd'
  obtain ⟨e, he, rfl⟩ := List.mem_map.mp hd
  obtain ⟨e', he', rfl⟩ := List.mem_map.mp hd'
  obtain ⟨ns, rfl⟩ := isIntT_of (List.all_eq_true.mp h e he)
  obtain ⟨ms, rfl⟩ := isIntT_of (List.all_eq_true.mp h e' he')
  unfold keyLen
  rw [PySem.W.alike, PySem.W.alikeAll, PySem.W.alikeAll, PySem.W.alikeAll, PySem.W.alike, PySem.W.alike, alike_intsA]
  simp
theorem keys_sortable {ds : List D} (h : ds.all isIntT = true) : PySem.W.Sortable (ds.map keyLen) := .inl fun d hd => by
  obtain ⟨e, he, rfl⟩ := List.mem_map.mp hd
  obtain ⟨ns, rfl⟩ := isIntT_of (List.all_eq_true.mp h e he)
  exact ⟨_, _, rfl⟩
theorem depth_ints : ∀ ns : List Int, PyData.depthAll (ns.map .int) = 0
  | [] => by simp [PyData.depthAll]
  | n :: ns => by rw [List.map_cons, PyData.depthAll, depth_ints ns]; simp [PyData.depth]
theorem key_depth {d : D} (h : isIntT d = true) : (keyLen d).depth ≤ 2 := by
  obtain ⟨ns, rfl⟩ := isIntT_of h
  unfold keyLen
  simp [PyData.depth, PyData.depthAll, depth_ints]
theorem readsAll_ints {h : Heap} : ∀ {ns : List Int} {vs : List Value} {as : List Addr}, ReadsAll h vs (ns.map .int) as → as = []
  | [], _, _, r => by cases r; rfl
  | n :: ns, _, _, r => by
    cases r with
    | cons h1 h2 =>
      cases h1
      rw [readsAll_ints h2]
      rfl
theorem reads_ints {h : Heap} {ns : List Int} {v : Value} {as : List Addr} (r : Reads h v (.tuple (ns.map .int)) as) : as = [] := by
  cases r with
  | tuple h1 h2 h3 h4 => exact readsAll_ints h4
def fSortLen (a : FE) : FE := fun env => (a env).bnd fun x => (rd x.2 (hold x.1)).bnd fun d => (sortLenD d).nox.bnd fun r => .ok (r, x.2)
section
variable [Tables] {X : Cx} {E : XE}
theorem ge_sortLen {e : Expr} {fa : FE} {c P : Addr} {k : Nat} {x : Str} {params : Arguments} {scope : Scope} {p p1 p2 p3 p4 p5 lpos kpos pos : Pos} {j : Nat} (hc : X.calm = true) (hr : Room k X.A) (hm : X.mg "sorted" = none) (hml : X.mg "len" = none) (he : GE X E e fa)
    (TB : LamX.TabB X.base X.mg c P) (hcode : X.env.code = .ref c) (hmT : (P, X.env.qual ++ "<lambda>") ∈ Tables.T) (hu : ∀ q ∈ Tables.T, q.1 = P → q.2 = X.env.qual ++ "<lambda>") (hg : Gl X "sorted" := by rfl)
    (hk : scope.kind = .function := by rfl) (hco : scope.isCoroutine = false := by rfl) (hgen : scope.isGenerator = false := by rfl) (h1 : scope.names.lookup x = some .local := by rfl) (h2 : scope.names.lookup ("len" : Str) = some .globalImplicit := by rfl)
    (hcell : ∀ y ∈ scope.names, y.2 ≠ .cell ∧ y.2 ≠ .free := by decide) (hclo : ∀ cells, cloFrom cells scope.names [] = [] := by intro _; rfl) (hdef : defaultsOf params X.env = ([], []) := by rfl) (hd : (x == ("__debug__" : Str)) = false := by decide)
    (hbind : ∀ (q : Str) (pm cv ctv : Value) (t : Addr), bindArgs (PySem.W.kla_fn "<lambda>" q params (.Tuple [.Call (.Name "len" p1) [.Name x p2] [] p3, .Name x p4] j p5) scope [] pm cv ctv) ⟨[.ref t], []⟩ = pure [(x, .ref t)] := by intro _ _ _ _ _; rfl)
    (hse : backTo pos (starEach [e] X.env) = (false, eval e X.env) :: backTo pos (starEach [] X.env) := by rfl) (hpl : (backTo pos (starEach [e] X.env)).any (·.1) = false := by rfl) :
    GE X E (.Call (.Name "sorted" p) [e] [⟨some "key", .Lambda params (.Tuple [.Call (.Name "len" p1) [.Name x p2] [] p3, .Name x p4] j p5) scope lpos, kpos⟩] pos) (fSortLen fa) := by
  refine ⟨fun pins s σ H Q I ⟨S, Hs, env, ok, h⟩ => ?_⟩
  refine wpAny_Call_Name_kw (ld_blt I hg hm (u := .builtin "sorted") (by first | rfl | decide +kernel) ?_)
  refine PyProof.Rows.callWith_kw ?_ hse hpl rfl rfl
  rw [hse]
  refine Calls.spliced_cons (thn (he.run pins s σ H _ I (bindH ok h)) fun v s1 ⟨y, H1, I1, r1, Hs1, z, sm, o1, rv1, q⟩ => Calls.spliced_nil ?_)
  obtain ⟨d0, e0, q⟩ := RD.inv (rd_nox _ _) q
  obtain ⟨r2, e2, q⟩ := RD.inv (nox_nox _) q
  replace e2 := nox_ok_of e2
  have t0 := o1.rd rv1 e0
  show wpAny _ _ (evalAll [(do let v ← eval (.Lambda params (.Tuple [.Call (.Name "len" p1) [.Name x p2] [] p3, .Name x p4] j p5) scope lpos) X.env; standAt pos; pure v)]) _ _ s1
  refine wpAny_evalAll_cons (wpAny_bind (LamX.lam_make2 (T := Tables.T) I1 TB hcode hmT hu o1.tb.1 hdef (fun y hy e => absurd e (hcell y hy).2) fun f c' pm ctv H2 s2 I2 eN T2 hf hfn hfr hcc => wpAny_bind (wpAny_standAt (wpAny_pure (wpAny_evalAll_nil ?_)))))
  rw [hclo] at hf
  have sm2 : Same Hs1 H2 := fun b o e => eN b o (o1.sub b o e) fun ps z => o1.tb.2.2 b ps (by rw [← z]; exact e)
  have o2 : Ok S Hs1 H2 σ z.2 := o1.frame (Same.refl _) sm2 eN (fun b o _ _ e => e) ⟨T2, o1.tb.2.2⟩
  unfold sortLenD at e2
  split at e2
  · rename_i ds
    split at e2
    · rename_i hds
      cases e2
      obtain ⟨l, xs, rfl, hl1, hl2, hq⟩ := t0.list o1.sub
      obtain rfl : v = Value.ref l := r1
      have hl1' : H2 l = some (.lst xs) := eN _ _ hl1 fun ps z => by cases z
      obtain ⟨its, rv, pl, hz⟩ := I2.list (SqL.of hl1')
      have eR := each_of rv hq
      have hlen : ds.length ≤ sizeLine := by rw [← hq.length]; exact hl2
      obtain ⟨mb, b1, b2⟩ := I2.mod.blt
      show wpAny _ _ (call (.builtin "sorted") [.ref l] [(Str.ofString "key", .ref f)]) _ _ s2
      refine PySem.W.sorted_key_data keyLen pl.isList (R := vR Hs1) (bs := ds) eR (keys_alike hds) (keys_sortable hds) hlen (fun d hd => ?_) (PyProof.Rows.ksk_s1 _ _) (fun _ => PyProof.Rows.ksk_l1 _ _) (fun _ => PyProof.Rows.ksk_t1 _ _) (fun v d ⟨y, ry, hy⟩ hmem h tk kp => ?_) fun out cc h' tk kp fr hout hol hE => ?_
      · have := key_depth (List.all_eq_true.mp hds d hd)
        have := hr.un
        omega
      · obtain ⟨ns, rfl⟩ := isIntT_of (List.all_eq_true.mp hds d hmem)
        cases hy with
        | tup g1 g2 g3 =>
          rename_i t xs'
          obtain rfl : v = Value.ref t := ry
          have hT : H2 t = some (.tup xs') := sm2 _ _ g1
          obtain ⟨its2, rv2, pl2, hz2⟩ := I2.tuple (SqT.of hT)
          have pln : (PyData.tuple (ns.map .int)).plain = true := by rw [PyData.plain]; exact plainAll_map PyData.int ns fun _ _ => rfl
          obtain ⟨as, ra⟩ := Dp.reads I2 (.tuple (ns.map .int)) (.ref t) (.ref t) ((Dq.tup hT g2 (g3.mono sm2)).dp pln) rfl
          have := reads_ints ra
          subst this
          have hl3 : its2.length = ns.length := by rw [← rv2.length, g3.length, List.length_map]
          obtain ⟨⟨oc, vsc, tc, hoc, hdc, hvc⟩, _, _⟩ := I2.hok c' _ hcc
          have kn : keyLen (.tuple (ns.map .int)) = .tuple [.int ns.length, .tuple (ns.map .int)] := by
            show PyData.tuple [.int ((ns.map PyData.int).length : Int), _] = _
            rw [List.length_map]
          rw [kn]
          have hlen2 : bootBuiltins "len" = some (.builtin "len") := by first | rfl | decide +kernel
          have n2 : s2.heap.Ns mainGlobals X.mg := I2.mod.glob.keeps I2.bk
          have n3 : s2.heap.Ns builtinsNs mb := b1.keeps I2.bk
          have hdep : X.A.in1.in1.depth < recursionLimit := hr.depth
          refine lenPair_call (s := { s2 with heap := h, toks := tk }) (x := x) (its := its2.toArray) (mg := X.mg) (mb := mb) (ns := ns) (kp _ _ hf) ⟨c', oc, vsc, tc, rfl, kp _ _ hoc, hdc, hvc⟩ hdep (I2.nolimit.keeps kp) hk hco hgen h1 h2 (fun y hy => (hcell y hy).1) hd (hbind _ _ _ _ _) (n2.keeps kp) hml (n3.keeps kp) ((b2 "len" (by decide)).trans hlen2)
            (let ⟨o, e, r⟩ := pl2; ⟨o, kp _ _ e, r⟩) (by rw [List.size_toArray, ← rv2.length]; exact g2) (PyProof.Rows.Reads.keeps kp ra) (by rw [List.size_toArray]; exact hl3)
      · obtain ⟨ys, ry, hy⟩ := of_each hE
        have hyl : ys.length ≤ sizeLine := by
          rw [hy.length, List.length_mergeSort]; exact hlen
        have nD : H2 (s2.heap.objs.size + 1) = none := I2.hok.fresh (Nat.le_succ _)
        have J := I2.laid (t' := tk) (a := s2.heap.objs.size + 1) (o := .lst ys) kp (Nat.le_succ _) ⟨hyl, out, cc, ry, hout⟩
        exact ⟨.ref _, _, J, rfl, q (.ref _) Hs1 _ sm (o2.alloc nD) ⟨_, rfl, o2.newOwn nD ⟨ys, rfl, hyl, hy⟩, (o2.free nD).2.2.2⟩⟩
    · cases e2
  · cases e2
@[simp ↓] theorem v_sortLen (a : FE) (env : Env) : fSortLen a env = (a env).bnd fun x => (rd x.2 (hold x.1)).bnd fun d => (sortLenD d).nox.bnd fun r => .ok (r, x.2) := rfl
end
end PI
set_option autoImplicit false
set_option Elab.async false
set_option linter.all false
set_option maxRecDepth 100000
set_option autoImplicit false
/-! Pi34: defs that know their code object (they hold a lambda); the end with the tables of code objects. -/
namespace PI
open PySem PySem.Spec PyProof.Rows L2
open R (RD_bnd)
/-- Fun with the code object's place told -/
structure FunC (c : Addr) (K : PySem.W.Frag) (x qual : Str) (st : Stmt) (f : Addr) (fd : FuncData) : Prop where
  ex : ∃ (oc : Value) (od : Option Addr) (kV doc pm : Value) (an : Option Addr) (ct : Value) (osl : Array (Option Value)),
    fd = PySem.W.fnOf x qual (defArgs st) (defBody st) (defScope st) .none kV doc pm an (.ref c) ct ∧ K.lookup f = some ⟨oc, od, .func fd, osl⟩ ∧ PySem.W.codeIn K (.ref c) qual = true
section
variable [Tables] {P : Program} {w : World} {K : PySem.W.Frag} {mg : Str → Option Value} {base : Heap}
omit [Tables] in
theorem FunC.ok {c : Addr} {x qual : Str} {st : Stmt} {f : Addr} {fd : FuncData} {N ps : List Str} {k : Nat} {sp : Sp} (F : FunC c K x qual st f fd) (S : FnScope N ps (defScope st)) (len : ∀ vs H Q E, sp vs H Q E → vs.length = ps.length)
    (hbody : ∀ (A : Around) (outer : List PySem.Env) (s : Shared) (H : Hp) (vs : List V) (Q : VK) (E : XK), Room k (A.deeper (envOfC qual (defScope st) s.heap.objs.size f (.ref c))) → sp vs H Q E →
      ∃ t, PSs (cxOf CX0 P w K mg base N qual (defScope st) f (.ref c) A outer s H E).nox (defBody st) t ∧ t { nx := fun _ H' => Q .non H', rt := Q } (start N vs) H) : FnOk P w K mg base CX0 (k + 1) f fd ps sp := by
  obtain ⟨oc, od, kV, doc, pm, an, ct, osl, e, lk, hcd⟩ := F.ex
  cases e
  refine fn_of lk hcd S len fun A outer s H vs Q E hr hsp => ?_
  obtain ⟨t, g, r⟩ := hbody A outer s H vs Q E hr hsp
  exact ⟨t, g.nox, r⟩
omit [Tables] in
theorem funC_mk {c : Addr} {x qual : Str} {st : Stmt} {f : Addr} {oc : Value} {od an : Option Addr} {osl : Array (Option Value)} {kV doc pm ct : Value} (l : K.lookup f = some ⟨oc, od, .func (PySem.W.fnOf x qual (defArgs st) (defBody st) (defScope st) .none kV doc pm an (.ref c) ct), osl⟩)
    (h : PySem.W.codeIn K (.ref c) qual = true) : FunC c K x qual st f (PySem.W.fnOf x qual (defArgs st) (defBody st) (defScope st) .none kV doc pm an (.ref c) ct) := ⟨⟨oc, od, kV, doc, pm, an, ct, osl, rfl, l, h⟩⟩
/-- a def that knows its code object -/
theorem fn_pureC {c : Addr} {x qual : Str} {st : Stmt} {f : Addr} {fd : FuncData} {N ps : List Str} {k : Nat} {body : FS} (F : FunC c K x qual st f fd) (S : FnScope N ps (defScope st))
    (h : ∀ (A : Around) (outer : List PySem.Env) (s : Shared) (H : Hp) (E : XK), Room k (A.deeper (envOfC qual (defScope st) s.heap.objs.size f (.ref c))) →
      GSs (cxOf CX0 P w K mg base N qual (defScope st) f (.ref c) A outer s H E).nox F0 (defBody st) body) : FnOk P w K mg base CX0 (k + 1) f fd ps (spF Z0 (runF N.length body) ps.length) := by
  refine F.ok S (fun vs H Q E q => ?_) (fun A outer s H vs Q E hr q => ⟨_, h A outer s H E hr, ?_⟩)
  · obtain ⟨_, _, h1, _⟩ := q; exact h1
  · obtain ⟨Hs, ds, h1, h2, h3, ht, h4⟩ := q
    unfold runF at h4
    rw [RD_bnd] at h4
    have hlen := h3.length
    -- what stood at the entry stands
    have kept : ∀ {σ : St} {env : Env} {Hs' H' : Hp}, Same Hs Hs' → Ok ⟨FrO Hs H, fun _ => False⟩ Hs' H' σ env → LamX.ExtN H H' := fun {σ env Hs' H'} s' o' b o e hx => by
      by_cases hb : Hs b = none
      · exact (o'.fr b o (FrO_of hb e hx)).1
      · cases hh : Hs b with
        | none => exact absurd hh hb
        | some o2 =>
          have e3 := h2 b o2 hh
          rw [e] at e3; cases e3
          exact o'.sub _ _ (s' _ _ hh)
    refine ⟨⟨FrO Hs H, fun _ => False⟩, Hs, _, ⟨?_, h2, fun b o e => ⟨(FrO_inv e).2.1, fun _ => (FrO_inv e).1⟩, fun _ z => z.elim, fun i m e => ?_, fun i j k c k' c' p e1 => ?_, ht.1, fun b ps e => (FrO_inv e).2.2 ps rfl, ht.2⟩, h4.mono (fun o ho => ?_) fun c hc => ?_⟩
    · unfold L2.start
      simp [hlen]
    · obtain ⟨d, v, e1, e2, e3⟩ := h3.slots _ i m e
      subst e1
      refine ⟨v, ?_, e3⟩
      unfold L2.start
      rw [hlen]
      exact e2
    · obtain ⟨d, v, e3, _⟩ := h3.slots _ i _ e1
      cases e3
    · have fin : ∀ {v : V} {r : RV} {σ : St} {env : Env} {Hs' H' : Hp}, Same Hs Hs' → Ok ⟨FrO Hs H, fun _ => False⟩ Hs' H' σ env → ((R.ok r).RD (fun r => ∀ v Hs' H', Same Hs Hs' → Same Hs' H' → LamX.ExtN H H' → Kept Hs Hs' H → (LamX.Tabs Tables.T H' ∧ NoTb Hs') → ResR Hs' H H' v r → Q v H') (fun c => ∀ H', LamX.ExtN H H' → LamX.Tabs Tables.T H' → Z0 E c H')) →
          (ResR Hs' H H' v r) → Q v H' := fun {v r σ env Hs' H'} s' o' hq rr => by
        refine hq v Hs' H' s' o'.sub (kept s' o') (fun b o e et e2 => ?_) ⟨o'.tb.1, o'.tb.2.2⟩ rr
        exact (o'.fr b o (FrO_of e2 e (isTp_tb et))).2 et
      cases o with
      | nx e => exact fun σ Hs' H' s' o' => fin s' o' ho (.non)
      | bk e => exact ho.elim
      | ct e => exact ho.elim
      | rt r e =>
        refine fun v σ Hs' H' s' o' rr => ?_
        cases r with
        | sh d => exact fin s' o' ho rr
        | fr c =>
          obtain ⟨p, e1, hO, n⟩ := rr
          refine fin s' o' ho ⟨p, e1, hO.1, FrO_bare hO.2.1 ?_, hO.2.2.1⟩
          cases h5 : Hs p with
          | none => rfl
          | some o3 =>
            have := s' _ _ h5
            rw [hO.1] at this; cases this
        | br i => exact ho.elim
        | no => exact ho.elim
    · exact fun H' s1 s2 tt => hc H' (fun b o e hx => by
        by_cases hb : Hs b = none
        · exact s2 b o (FrO_of hb e hx)
        · cases hh : Hs b with
          | none => exact absurd hh hb
          | some o2 =>
            have e3 := h2 b o2 hh
            rw [e] at e3; cases e3
            exact s1 _ _ hh) tt
end
/-- the tables of the defs at the top are empty at the head -/
def TabsOf (K : PySem.W.Frag) (q : Program) (mg : Str → Option Value) (h : Heap) : Prop :=
  ∀ (x : Str) (fa : Addr), ((recsOf q).any fun e => e.name == x) = true → mg x = some (.ref fa) → LamX.OwnTab K fa h
theorem walk_tabs {l : PySem.W.OpenLaw} {n k : Nat} {q : Program} {loose : List Str} {XP : (Str → Option Value) → Heap → Prop} {YP : World → Heap → Prop} {d : DefRec} {K : Params → PySem.W.Frag} {x : Str}
    (hn : l.most = some n) (hn2 : n ≤ sizeLine) (hdf : d.params.defaults = []) (hr : Room k callerA) (hY : ∀ (w : World) (h : Heap), YP w h → (K w.params).In h)
    (F : ∀ (w : World) (mg : Str → Option Value) (fa : Addr) (h : Heap), YP w h → (K w.params).In h → h.Ns mainGlobals mg → mg d.name = some (.ref fa) → TabsOf (K w.params) q mg h → LamX.LawAtS l w (K w.params) CX0 k n x mg fa h) :
    PySem.W.WalkO q loose XP YP l.row.toRowW d [] (fun f vs => PySem.call f vs) := by
  refine Att.attach_callB hn hdf fun w s₀ s₁ mg mb fa o pm cd doc a vs ns G Y ho hd hcd hmg hobj hints hlen hbits hg => ?_
  have KX := hY w _ Y
  have tabs : TabsOf (K w.params) q mg s₁.heap := fun y fy hrec hy c P o1 fd1 e dd vs1 sl k1 k2 k3 k4 k5 => by
    obtain ⟨dL, hmem, hn1⟩ := List.any_eq_true.mp hrec
    have hname : dL.name = y := beq_iff_eq.mp hn1
    obtain ⟨fa', o', fd', c', P', t1, t2, t3, t4, t5, ⟨⟨oc, vc, e1, _, e3, e4⟩, hP⟩⟩ := G.T.tab dL hmem
    rw [hname, hy] at t1
    cases t1
    have g1 := (KX _ _ k1).symm.trans t2
    cases g1
    have g2 := k2.symm.trans t3
    cases g2
    have g3 := k3.symm.trans t4
    cases g3
    have g4 := (KX _ _ k4).symm.trans e1
    cases g4
    cases e3
    have g5 := k5.symm.trans e4
    cases g5
    exact hP
  obtain ⟨fd, cs, sp, hT, nT, C, hb, hsp, hF⟩ := F w mg fa _ Y KX G.T.g hmg tabs
  exact LamX.law_callTs KX G.T.g G.T.b G.T.builtins G.T.nolimit hg hT nT C G.T.bmain hobj hints (Nat.le_trans hlen hn2) hr hF hb (fun H hH hS => hsp H a ns hlen hbits hH hS) fun _ _ _ z => z
/-- the law's promise at the head, with the tables -/
theorem lawAt {l : PySem.W.OpenLaw} {w : World} {K : PySem.W.Frag} {k : Nat} {mg : Str → Option Value} {fa : Addr} {h : Heap} (T : List (Addr × Addr × Str))
    (hT : ∀ p ∈ T, h.get? p.2.1 = some { cls := .none, data := .fields #[] }) (nT : ∀ p ∈ T, K.lookup p.2.1 = none) (C : ∀ p ∈ T, PySem.W.CodeHd h p.1 p.2.1)
    (F : letI : Tables := ⟨T.map fun p => p.2⟩; ∃ fd : FuncData, (∀ (s : Shared) (u : Value), BindsTo s fd ⟨[u], []⟩ [("script", u)]) ∧ ∀ base : Heap, K.In base → base.Ns mainGlobals mg → (∀ p ∈ T, LamX.TabB base mg p.1 p.2.1) → FnOk l.prog w K mg base CX0 k fa fd ["script"] (spLaw K)) :
    LamX.LawAtS l w K CX0 k 63 "script" mg fa h := by
  letI : Tables := ⟨T.map fun p => p.2⟩
  obtain ⟨fd, hb, hF⟩ := F
  refine ⟨fd, T.map (fun p => (p.1, p.2.1)), spLaw K, fun p hp => ?_, fun p hp => ?_, fun p hp => ?_, hb, fun H a ns hl _ hH hS => ⟨a, ns, rfl, hS, hl, fun p hp => ?_, fun _ => rfl⟩, fun base kb nb tb => hF base kb nb fun p hp => tb (p.1, p.2.1) (List.mem_map.mpr ⟨p, hp, rfl⟩)⟩
  · obtain ⟨r, hr, rfl⟩ := List.mem_map.mp hp; exact hT r hr
  · obtain ⟨r, hr, rfl⟩ := List.mem_map.mp hp; exact nT r hr
  · obtain ⟨r, hr, rfl⟩ := List.mem_map.mp hp; exact C r hr
  · obtain ⟨r, hr, rfl⟩ := List.mem_map.mp hp
    exact ⟨#[], hH (r.1, r.2.1) (List.mem_map.mpr ⟨r, hr, rfl⟩), by trivial, fun pos cv z => by cases z⟩
/-- .. with one table: the def x holds a lambda -/
theorem lawAt1 {l : PySem.W.OpenLaw} {w : World} {K : PySem.W.Frag} {k : Nat} {mg : Str → Option Value} {fa f c P : Addr} {h : Heap} {q x : Str} {pr : Program} {o : Obj} {fdx : FuncData} {e : Value} {dd : Option Addr} {vs : Array Value} {sl : Array (Option Value)}
    (TB : TabsOf K pr mg h) (KX : K.In h) (G : h.Ns mainGlobals mg) (hr : ((recsOf pr).any fun e => e.name == x) = true) (ha : PySem.W.nsIn K mainGlobals x = some (some (.ref f))) (hl : K.lookup f = some o) (hd : o.data = .func fdx) (hc : fdx.code = .ref c)
    (hk : K.lookup c = some ⟨e, dd, .fields vs, sl⟩) (hv : vs[11]? = some (.ref P)) (hn : K.lookup P = none) (hh : PySem.W.codeHdIn K c P = true)
    (F : letI : Tables := ⟨[(P, q)]⟩; ∃ fd : FuncData, (∀ (s : Shared) (u : Value), BindsTo s fd ⟨[u], []⟩ [("script", u)]) ∧ ∀ base : Heap, K.In base → base.Ns mainGlobals mg → (∀ p ∈ [(c, P, q)], LamX.TabB base mg p.1 p.2.1) → FnOk l.prog w K mg base CX0 k fa fd ["script"] (spLaw K)) :
    LamX.LawAtS l w K CX0 k 63 "script" mg fa h := by
  refine lawAt [(c, P, q)] (fun p hp => ?_) (fun p hp => ?_) (fun p hp => ?_) F
  · cases hp with
    | head => exact TB x f hr (PySem.W.mg_of KX G ha) c P o fdx e dd vs sl hl hd hc hk hv
    | tail _ z => cases z
  · cases hp with
    | head => exact hn
    | tail _ z => cases z
  · cases hp with
    | head => exact PySem.W.codeHd_of_K KX hh
    | tail _ z => cases z
end PI
set_option autoImplicit false
set_option Elab.async false
set_option linter.all false
set_option maxRecDepth 100000
set_option autoImplicit false
/-! Pi35: tuple(range(a, b, -1)). -/
namespace PI
open PySem PySem.Spec PyProof.Rows L2
open R (RD_bnd)
/-- a, a - 1, .. : n ints -/
def dnI (a : Int) (n : Nat) : List Int := (List.range n).map fun (k : Nat) => a - (k : Int)
def fTupDown (fs : List FE) : FE := fun env => (fArgs fs env).bnd fun z => match z.1 with
  | [.int i, .int j, .int c] => if c = -1 ∧ rgOk j i = true then .ok (.sh (.tuple ((dnI i (i - j).toNat).map PyData.int)), z.2) else .bad
  | _ => .bad
theorem vals_down {i : Int} {n : Nat} {acc : Array Value} (h : ItemsOf (fun k v => ∃ t, v = .int (i + k * (-1)) t) acc n) : Vals ((dnI i n).map V.int) acc.toList := by
  have e : acc.toList.length = n := by rw [Array.length_toList]; exact h.1
  unfold dnI
  rw [List.map_map, ← e]
  refine vals_of_get acc.toList _ fun k u hk => ?_
  obtain ⟨t, rfl⟩ := h.2 k u (by rw [← hk, Array.getElem?_toList])
  refine ⟨t, ?_⟩
  have e2 : i + (k : Int) * (-1) = i - (k : Int) := by omega
  rw [e2]
section
variable [Tables] {X : Cx} {E : XE}
theorem ge_tupDown {a b c : Expr} {fs : List FE} {p p2 pos pos2 : Pos} (hc : X.calm = true) (hm : X.mg "tuple" = none) (hmr : X.mg "range" = none) (ha : GA X E [a, b, c] (fArgs fs)) (hg : Gl X "tuple" := by rfl) (hgr : Gl X "range" := by rfl)
    (hs : starEach [a, b, c] X.env = (false, eval a X.env) :: starEach [b, c] X.env := by rfl) (hpl : (backTo pos2 (starEach [b, c] X.env)).any (·.1) = false := by rfl)
    (na : starEach [.Call (.Name "range" p2) [a, b, c] [] pos2] X.env = (false, eval (.Call (.Name "range" p2) [a, b, c] [] pos2) X.env) :: starEach [] X.env := by rfl) :
    GE X E (.Call (.Name "tuple" p) [.Call (.Name "range" p2) [a, b, c] [] pos2] [] pos) (fTupDown fs) := by
  refine ⟨fun pins s σ H Q I ⟨S, Hs, env, ok, h⟩ => ?_⟩
  refine Call_ (ld_blt I hg hm boot_tuple (PyProof.Rows.callWith_type1 (args_cons ?_ na) na))
  refine Call_ (ld_blt I hgr hmr boot_range (PyProof.Rows.callWith_type1 (thn (ha.run pos2 pins s σ H _ I (bindA ok h)) fun us s1 ⟨vs, H1, I1, r1, Hs1, z, sm, o1, q1, hq⟩ => ?_) hs hpl))
  obtain ⟨ds, e1⟩ := z
  simp only at hq q1
  split at hq
  · split at hq
    · rename_i i j k hk
      obtain ⟨rfl, hrg⟩ := hk
      have hok := rgOk_ok hrg
      obtain ⟨b1, b2, b3, b4, b5⟩ := hok
      cases q1 with
      | cons d1 q1 =>
        cases q1 with
        | cons d2 q1 =>
          cases q1 with
          | cons d3 q1 =>
            cases q1
            cases d1; cases d2; cases d3
            cases r1 with
            | cons v1 r1 =>
              cases r1 with
              | cons v2 r1 =>
                cases r1 with
                | cons v3 r1 =>
                  cases r1
                  obtain ⟨t1, rfl⟩ := v1
                  obtain ⟨t2, rfl⟩ := v2
                  obtain ⟨t3, rfl⟩ := v3
                  refine call_range_3 (by decide) ?_ (.inl (PyProof.noPylong_small (by decide)))
                  refine args_nil ?_
                  have hn : Builtin.Range.rangeSize i j (-1) = (i - j).toNat := PySem.W.rangeSize_downNat i j
                  have I2 : Inv X pins σ H1 { s1 with heap := s1.heap.push { cls := .type "range", data := .fields #[.int i t1, .int j t2, .int (-1) t3] } } := I1.kept (t' := s1.toks) fun b o e => Heap.get?_push_of_some _ e
                  refine call_tuple_range (I2.ok.hd hc) (IsRange.new _ _ _ _ _ _ _) (PySem.W.small_down b3 b4 b1 b2) hn b5 fun h' tk acc hkk hi => ?_
                  have I3 : Inv X pins σ H1 { s1 with heap := h', toks := tk } := I2.kept hkk
                  have hl : ((dnI i (i - j).toNat).map V.int).length ≤ sizeLine := by
                    have e : ((dnI i (i - j).toNat).map V.int).length = (i - j).toNat := by unfold dnI; simp
                    rw [e, sizeLine_eq]
                    omega
                  refine ⟨.ref h'.objs.size, upd H1 h'.objs.size (.tup ((dnI i (i - j).toNat).map V.int)), I3.laid (t' := tk) (fun c o e => Heap.get?_push_of_some _ e) (Nat.le_refl _) (show ObjOk X.prog X.w _ _ _ (.tup _) from ⟨hl, acc.toList, vals_down hi, ?_⟩), rfl,
                    PV.tup o1 (PV.from sm hq) DqAll.ints hl (I3.hok.fresh (Nat.le_refl _))⟩
                  rw [Array.toArray_toList]
                  exact IsTup.new _ _
    · exact hq.elim
  · exact hq.elim
end
@[simp ↓] theorem v_tupDown (fs : List FE) (env : Env) : fTupDown fs env = (fArgs fs env).bnd fun z => match z.1 with
  | [.int i, .int j, .int c] => if c = -1 ∧ rgOk j i = true then .ok (.sh (.tuple ((dnI i (i - j).toNat).map PyData.int)), z.2) else .bad
  | _ => .bad := rfl
end PI
set_option autoImplicit false
set_option Elab.async false
set_option linter.all false
set_option maxRecDepth 100000
set_option autoImplicit false
/-! Pi36: sorted of a tuple. -/
namespace PI
open PySem PySem.Spec PyProof.Rows L2
open R (RD_bnd)
def sortAT : List D → R RV
  | [.tuple ds] => if sortOk ds = true then .ok (.fr (.lst (sortDs ds))) else .bad
  | args => sortA args
section
variable [Tables] {X : Cx} {E : XE}
omit [Tables] in
/-- what stands in a tuple is sorted -/
theorem sorted_tup {pins : List (Addr × Obj)} {s : Shared} {σ : St} {Hs H : Hp} {t : Addr} {Q : VK} {ds : List D} {xs : List V} {its : List Value} (hu : X.A.units + 64 < cLine) (I : Inv X pins σ H s) (ht : IsTup s.heap t its.toArray) (hn : its.length ≤ sizeLine) (sp : SortP ds)
    (rv : Vals xs its) (hq : DqAll Hs xs ds) (sm : Same Hs H) (q : ∀ p ys, H p = none → DqAll Hs ys (sortDs ds) → ys.length ≤ sizeLine → Q (.ref p) (upd H p (.lst ys))) :
    wpAny (model X.prog X.w) X.A (call (.builtin "sorted") [.ref t]) (EP X pins σ Q) X.xe s := by
  obtain ⟨o, ho, hc, n, hd⟩ := ht
  refine Calls.call_function_entry PyProof.Rows.kind_sorted PyProof.Rows.plain_sorted PyProof.Rows.entry_sorted (PyProof.Rows.args_sorted1 _) ?_
  unfold Builtin.«sorted»
  refine wpAny_bind (m := checkCount "sorted" 1 1 _) (wpAny_pure ?_)
  refine wpAny_bind (wpAny_collect_seq (A := X.A.in1) t (.inr rfl) ho hc hd (fun h' hk => ?_) (by rw [List.size_toArray]; exact hn))
  have hal : its.length = ds.length := by rw [← rv.length]; exact hq.length
  have I1 : Inv X pins σ H { s with heap := h' } := I.kept (t' := s.toks) hk
  have e0 : its.toArray.toList = its := by simp
  rw [e0]
  refine wpAny_bind (wpAny_newList ?_ hn)
  have hoL : (h'.push (seqObj "list" its.toArray 0)).get? h'.objs.size = some (seqObj "list" its.toArray 0) := Heap.get?_push_size _ rfl
  have eD := vR_reads I1 sm sp.plain (each_of rv hq)
  have eD2 : PySem.W.EachIs (fun v d => ∃ as, Reads (h'.push (seqObj "list" its.toArray 0)) v (id d) as ∧ h'.objs.size ∉ as) its ds := eD.mono fun v d ⟨as, ra, rl⟩ => ⟨as, PyProof.Rows.Reads.keeps (fun b o e => Heap.get?_push_of_some _ e) ra, fun z => Nat.lt_irrefl _ (rl _ z)⟩
  show wpAny _ _ _ _ _ { s with heap := h'.push (seqObj "list" its.toArray 0) }
  refine wpAny_bind (wpAny_holding (PySem.W.list_sort_data (A := X.A.in1) (s := { s with heap := h'.push (seqObj "list" its.toArray 0) }) (enc := id) hoL (each_of rv hq) eD2 (by rw [List.map_id]; exact sp.alike) (by rw [List.map_id]; exact sp.kind) (by rw [← hal]; exact hn) (fun b hb => ?_) fun out hol eo => ?_))
  · have := sp.depth b hb
    show X.A.units + 1 + 1 + b.depth < cLine
    omega
  obtain ⟨ys, ry, hy⟩ := of_each eo
  obtain ⟨e', he'⟩ := PyProof.Rows.sortedHeap_at (vs := its) (out := out.toArray) hoL
  have hlen : ys.length ≤ sizeLine := by
    rw [hy.length, List.length_mergeSort, ← hal]; exact hn
  refine wpAny_pure ⟨_, rfl, .ref h'.objs.size, upd H h'.objs.size (.lst ys), I1.laid (t' := s.toks) (fun b u e => ?_) (Nat.le_refl _)
    (show ObjOk X.prog X.w _ _ _ (.lst ys) from ⟨hlen, out, e', ry, he'⟩), rfl, q _ ys (I1.hok.fresh (Nat.le_refl _)) hy hlen⟩
  have hb : b < h'.objs.size := Heap.lt_size e
  rw [PyProof.Rows.sortedHeap_old (Nat.ne_of_lt hb) (by rw [size_push']; exact Nat.lt_succ_of_lt hb)]
  exact Heap.get?_push_of_some _ e
theorem cr_sortAT (hc : X.calm = true) (hu : X.A.units + 64 < cLine) : CallR X (.builtin "sorted") (rL sortAT) := by
  rintro pins s σ H xs us Q I r ⟨S, Hs, σ', env, ds, rr, ok, t, e, q⟩
  unfold sortAT at e
  split at e
  · rename_i l
    split at e
    · rename_i hs
      cases e
      have sp := sortP_of hs
      obtain ⟨x, rfl, t1⟩ := t.one
      obtain ⟨p, ys, rfl, h1, h2, h3⟩ := t1.tuple
      obtain rfl := Vals.ref1 r
      obtain ⟨its, rv, pl, hz⟩ := I.tuple (SqT.of (ok.sub _ _ h1))
      exact sorted_tup hu I pl (by rw [← rv.length]; exact hz) sp rv h3 ok.sub fun p' zs hp hy hl => PV.lst ok q hy hl hp
    · cases e
  · exact cr_sortA hc hu pins s σ H xs us Q I r ⟨S, Hs, σ', env, ds, rr, ok, t, e, q⟩
end
theorem sortAT_iL (ns : List Int) : sortAT [.tuple (iL ns)] = .ok (.fr (.lst (iL (sortI ns)))) := sortA_iL ns
end PI
set_option autoImplicit true
set_option Elab.async false
set_option linter.all false
set_option maxRecDepth 100000
namespace Mir
open PySem PI

def b_is_whole : FS := sRet (fAnd (fUn (instD "int") (fName 0)) (fAnd (fNot (fUn (instD "bool") (fName 0))) (fChain leD leD (fName 1) (fName 0) (fName 2))))
def m_is_whole : List D → R RV := runF 3 b_is_whole
def b_is_tuple_of : FS := sRet (fAnd (fUn (instD "tuple") (fName 0)) (fChain leD leD (fName 1) (fBi lenD [fName 0]) (fName 2)))
def m_is_tuple_of : List D → R RV := runF 3 b_is_tuple_of
def b_is_rising : FS := sRet (fBi allD [fComp [1, 2] (PI.iZip (fName 0) (fSlice (fName 0) (some (fC (.int 1))) none)) (PI.gTup [gName 1, gName 2]) (PI.tYes) (fBin ltD (fName 1) (fName 2))])
def m_is_rising : List D → R RV := runF 3 b_is_rising
def b_fits_some : FS := sRet (fAnd (fCall m_is_tuple_of [fName 1, fC (.int 0), fName 0]) (fAnd (fBi allD [fComp [2] (iSeq (fName 1)) (gName 2) (PI.tYes) (fCall m_is_whole [fName 2, fC (.int 0), fBin subD (fName 0) (fC (.int 1))])]) (fCall m_is_rising [fName 1])))
def m_fits_some : List D → R RV := runF 3 b_fits_some
def b_subsets_of_L1 : FS := sSet 1 (fBin addD (fName 1) (fComp [3] (iSeq (fName 1)) (gName 3) (PI.tYes) (fBin addD (fName 3) (fTup [fName 2]))))
def b_subsets_of : FS := sSeq (sSet 1 (fLst [fTup []]))
  (sSeq (sFor (iRange1 (fName 0)) (gName 2) (b_subsets_of_L1))
  (sRet (fSortLen (fName 1))))
def m_subsets_of : List D → R RV := runF 4 b_subsets_of
def b_fits_file : FS := sRet (fAnd (fCall m_is_tuple_of [fName 0, fC (.int 1), fC (.int (10))]) (fBi allD [fComp [1] (iSeq (fName 0)) (gName 1) (PI.tYes) (fCall m_is_whole [fName 1, fC (.int 1), fC (.int (30))])]))
def m_fits_file : List D → R RV := runF 2 b_fits_file
def b_need_file : FS := sIf (PI.tNot (tVal (fCall m_fits_file [fName 0]))) (sRaise "InvalidFile") (sSkip)
def m_need_file : List D → R RV := runF 1 b_need_file
def b_rising_in : FS := sSeq (sSetC 2 (fComp [3] (iSeq (fName 1)) (gName 3) (PI.tYes) (fBin ixD (fName 0) (fName 3))))
  (sRet (fBi allD [fComp [4, 5] (PI.iZip (fName 2) (fSlice (fName 2) (some (fC (.int 1))) none)) (PI.gTup [gName 4, gName 5]) (PI.tYes) (fBin ltD (fName 4) (fName 5))]))
def m_rising_in : List D → R RV := runF 6 b_rising_in
def b_falling_in : FS := sSeq (sSetC 2 (fComp [3] (iSeq (fName 1)) (gName 3) (PI.tYes) (fBin ixD (fName 0) (fName 3))))
  (sRet (fBi allD [fComp [4, 5] (PI.iZip (fName 2) (fSlice (fName 2) (some (fC (.int 1))) none)) (PI.gTup [gName 4, gName 5]) (PI.tYes) (fBin geD (fName 4) (fName 5))]))
def m_falling_in : List D → R RV := runF 6 b_falling_in
def b_longest_in_L1 : FS := sSeq (sSetC 4 (fComp [5] (iRange1 (fName 2)) (gName 5) (tVal (fBin ltD (fBin ixD (fName 0) (fName 5)) (fName 3))) (fBin ixD (fName 1) (fName 5))))
  (sApp 1 (fBin addD (fC (.int 1)) (fBi maxD [fBin addD (fName 4) (fLst [fC (.int 0)])])))
def b_longest_in : FS := sSeq (sSet 1 (fLst []))
  (sSeq (sFor (PI.iEnum (fName 0)) (PI.gTup [gName 2, gName 3]) (b_longest_in_L1))
  (sRet (fName 1)))
def m_longest_in : List D → R RV := runF 6 b_longest_in
def b_who_stays : FS := sSeq (sSet 1 (fBi maxD [fCall m_longest_in [fName 0]]))
  (sSeq (sSetC 2 (fComp [3] (iSeq (fCall m_subsets_of [fBi lenD [fName 0]])) (gName 3) (PI.tAnd (tVal (fBin PI.eqD (fBi lenD [fName 3]) (fName 1))) (tVal (fCall m_rising_in [fName 0, fName 3]))) (fName 3)))
  (sRet (fBin ixD (fName 2) (fC (.int 0)))))
def m_who_stays : List D → R RV := runF 4 b_who_stays
def b_stays : FS := sSeq (sExpr (fCall m_need_file [fName 0]))
  (sRet (fCall m_who_stays [fName 0]))
def m_stays : List D → R RV := runF 1 b_stays
def b_are_staying : FS := sSeq (sExpr (fCall m_need_file [fName 0]))
  (sRet (fAnd (fCall m_fits_some [fBi lenD [fName 0], fName 1]) (fCall m_rising_in [fName 0, fName 1])))
def m_are_staying : List D → R RV := runF 2 b_are_staying
def b_rows_paper : FS := sSeq (sExpr (fCall m_need_file [fName 0]))
  (sSeq (sSet 1 (fCall m_longest_in [fName 0]))
  (sRet (fBi tupleD [fComp [2] (iRange2 (fC (.int 1)) (fBin addD (fBi maxD [fName 1]) (fC (.int 1)))) (gName 2) (PI.tYes) (fBi tupleD [fComp [3] (iRange1 (fBi lenD [fName 0])) (gName 3) (tVal (fBin PI.eqD (fBin ixD (fName 1) (fName 3)) (fName 2))) (fName 3)])])))
def m_rows_paper : List D → R RV := runF 4 b_rows_paper
def b_is_rows_paper : FS := sSeq (sExpr (fCall m_need_file [fName 0]))
  (sSeq (sIf (PI.tNot (tVal (fCall m_is_whole [fName 1, fC (.int 0), fC (.int (10))]))) (sRaise "InvalidNumber") (sSkip))
  (sSeq (sIf (PI.tOr (PI.tNot (tVal (fCall m_is_tuple_of [fName 2, fC (.int 0), fName 1]))) (PI.tNot (tVal (fBi allD [fComp [4] (iSeq (fName 2)) (gName 4) (PI.tYes) (fCall m_fits_some [fBi lenD [fName 0], fName 4])])))) (sRet (fC (.bool false))) (sSkip))
  (sSeq (sSet 3 (fBi sortA [fComp2 [4, 5] [5] (iSeq (fName 2)) (gName 4) (PI.tYes) (iSeq (fName 4)) (gName 5) (PI.tYes) (fName 5)]))
  (sRet (fAnd (fBin PI.eqD (fName 3) (fLstRg (rg1 (fBi lenD [fName 0])))) (fBi allD [fComp [4] (iSeq (fName 2)) (gName 4) (PI.tYes) (fCall m_falling_in [fName 0, fName 4])]))))))
def m_is_rows_paper : List D → R RV := runF 6 b_is_rows_paper
def b_fewest_moves : FS := sSeq (sExpr (fCall m_need_file [fName 0]))
  (sSeq (sIf (tVal (fBin ltD (fUn lenSetD (fName 0)) (fBi lenD [fName 0]))) (sRet (fC .none)) (sSkip))
  (sRet (fBin subD (fBi lenD [fName 0]) (fBi maxD [fCall m_longest_in [fName 0]]))))
def m_fewest_moves : List D → R RV := runF 1 b_fewest_moves
def b__law_cup : FS := sRet (fLst [fIf (tVal (fBin geD (fName 1) (fBin powD (fC (.int 10)) (fC (.int 18))))) (fBin fdivD (fName 1) (fC (.int 67))) (fC (.int 0)), fBin addD (fBin modD (fBi intD [fBin addD (fBin mulD (fName 1) (fC (.int 293))) (fC (.int 4007))]) (fC (.int 2077498809))) (fC (.int 149))])
def b__law_roll : FS := sSeq (sIf (tVal (fBin gtD (fBin ixD (fName 0) (fC (.int 0))) (fC (.int 0)))) (sSeq (sSet 2 (fBin modD (fBi intD [fBin ixD (fName 0) (fC (.int 0))]) (fName 1)))
  (sSeq (sPut 0 (fC (.int 0)) (fBin fdivD (fBin ixD (fName 0) (fC (.int 0))) (fName 1)))
  (sRet (fName 2)))) (sSkip))
  (sSeq (sPut 0 (fC (.int 1)) (fBin modD (fBi intD [fBin addD (fBin mulD (fBin ixD (fName 0) (fC (.int 1))) (fC (.int 30859))) (fC (.int 7867))]) (fC (.int 2147483399))))
  (sSeq (sSet 3 (fBin modD (fBi intD [fBin mulD (fBin ixD (fName 0) (fC (.int 1))) (fBin addD (fBin ixD (fName 0) (fC (.int 1))) (fC (.int 223)))]) (fC (.int 2147483563))))
  (sRet (fBin modD (fBi intD [fBin fdivD (fName 3) (fC (.int 797))]) (fName 1)))))
def m__law_roll : List D → List D → R (RV × List D) := runIO 4 b__law_roll
def b__law_some : FS := sRet (fBin ixD (fName 1) (fCallIO m__law_roll 0 [fBi lenD [fName 1]]))
def m__law_some : List D → List D → R (RV × List D) := runIO 2 b__law_some
def b__law_same (self : List D → R RV) : FS := sSeq (sIf (tVal (fUn (instD "tuple") (fName 1))) (sSeq (sIf (PI.tOr (PI.tNot (tVal (fUn (instD "tuple") (fName 0)))) (tVal (fBin PI.neD (fBi lenD [fName 0]) (fBi lenD [fName 1])))) (sRet (fC (.bool false))) (sSkip))
  (sRet (fBi allD [fComp [2] (iRange1 (fBi lenD [fName 1])) (gName 2) (PI.tYes) (fCall self [fBin ixD (fName 0) (fName 2), fBin ixD (fName 1) (fName 2)])]))) (sSkip))
  (sSeq (sIf (tVal (fBin isD (fName 1) (fC .none))) (sRet (fBin isD (fName 0) (fC .none))) (sSkip))
  (sSeq (sIf (tVal (fUn (instD "bool") (fName 1))) (sRet (fIf (tVal (fName 1)) (fBin isD (fName 0) (fC (.bool true))) (fBin isD (fName 0) (fC (.bool false))))) (sSkip))
  (sSeq (sIf (tVal (fUn (instD "int") (fName 1))) (sRet (fAnd (fUn (instD "int") (fName 0)) (fAnd (fNot (fUn (instD "bool") (fName 0))) (fBin PI.eqD (fBi intD [fName 0]) (fName 1))))) (sSkip))
  (sRet (fAnd (fUn (instD "str") (fName 0)) (fBin PI.eqD (fBi strD [fName 0]) (fName 1)))))))
def m__law_same : Nat → List D → R RV
  | 0 => fun _ => .bad
  | k + 1 => runF 3 (b__law_same (m__law_same k))
def b__law_subsets_L1 : FS := sSet 1 (fBin addD (fName 1) (fComp [3] (iSeq (fName 1)) (gName 3) (PI.tYes) (fBin addD (fName 3) (fTup [fName 2]))))
def b__law_subsets : FS := sSeq (sSet 1 (fLst [fTup []]))
  (sSeq (sFor (iSeq (fName 0)) (gName 2) (b__law_subsets_L1))
  (sRet (fName 1)))
def m__law_subsets : List D → R RV := runF 4 b__law_subsets
def b__law_file : FS := sSeq (sSet 2 (fCallIO m__law_some 0 [fLst [fC (.int 2), fC (.int 5), fC (.int 30)]]))
  (sRet (fBi tupleD [fComp [3] (iRange1 (fBin addD (fC (.int 1)) (fCallIO m__law_roll 0 [fName 1]))) (gName 3) (PI.tYes) (fBin addD (fC (.int 1)) (fCallIO m__law_roll 0 [fName 2]))]))
def m__law_file : List D → List D → R (RV × List D) := runIO 4 b__law_file
def b__law_sees_L1 : FS := sIf (tVal (fBin gtD (fBin ixD (fName 0) (fName 3)) (fName 2))) (PI.sPar 1 2 (fBin addD (fName 1) (fTup [fName 3])) (fBin ixD (fName 0) (fName 3))) (sSkip)
def b__law_sees : FS := sSeq (sAsg (PI.gTup [gName 1, gName 2]) (fTup [fTup [], fUn negD (fC (.int 1))]))
  (sSeq (sFor (iRange1 (fBi lenD [fName 0])) (gName 3) (b__law_sees_L1))
  (sRet (fName 1)))
def m__law_sees : List D → R RV := runF 4 b__law_sees
def b__law_stay : FS := sRet (fBin PI.eqD (fBi lenD [fCall m__law_sees [fComp [2] (iSeq (fName 1)) (gName 2) (PI.tYes) (fBin ixD (fName 0) (fName 2))]]) (fBi lenD [fName 1]))
def m__law_stay : List D → R RV := runF 3 b__law_stay
def b__law_joined_L1 : FS := sSet 1 (fBin addD (fName 1) (fBi listD [fName 2]))
def b__law_joined : FS := sSeq (sSet 1 (fLst []))
  (sSeq (sFor (iSeq (fName 0)) (gName 2) (b__law_joined_L1))
  (sRet (fName 1)))
def m__law_joined : List D → R RV := runF 3 b__law_joined
def b__law_is_paper_L1 : FS := sIf (PI.tOr (tVal (fBin PI.neD (fBi listD [fName 3]) (fUn sortSetD (fName 3)))) (tVal (fBin PI.neD (fComp [4, 5] (PI.iZip (fName 3) (fSlice (fName 3) (some (fC (.int 1))) none)) (PI.gTup [gName 4, gName 5]) (tVal (fBin ltD (fBin ixD (fName 0) (fName 4)) (fBin ixD (fName 0) (fName 5)))) (fC (.int 1))) (fLst [])))) (sRet (fC (.bool false))) (sSkip)
def b__law_is_paper : FS := sSeq (sIf (PI.tOr (tVal (fBin gtD (fBi lenD [fName 2]) (fName 1))) (tVal (fBin PI.neD (fBi sortA [fCall m__law_joined [fName 2]]) (fLstRg (rg1 (fBi lenD [fName 0])))))) (sRet (fC (.bool false))) (sSkip))
  (sSeq (sFor (iSeq (fName 2)) (gName 3) (b__law_is_paper_L1))
  (sRet (fC (.bool true))))
def m__law_is_paper : List D → R RV := runF 6 b__law_is_paper
def b_law_s1 : FS := sSet 3 (fCallIO m__law_file 1 [fC (.int 8)])
def b_law_s2 : FS := sAsg (PI.gTup [gName 4, gName 5]) (fTup [fBi lenD [fName 3], fCall m__law_subsets [fLstRg (rg1 (fBi lenD [fName 3]))]])
def b_law_s3 : FS := sSet 6 (fBi sortA [fComp [8] (iSeq (fName 5)) (gName 8) (tVal (fCall m__law_stay [fName 3, fName 8])) (fTup [fUn negD (fBi lenD [fName 8]), fName 8])])
def b_law_s4 : FS := sSet 7 (fUn negD (fBin ixD (fBin ixD (fName 6) (fC (.int 0))) (fC (.int 0))))
def b_law_s5 : FS := sIf (PI.tNot (tVal (fCall (m__law_same 6) [fTup [fCall m_stays [fName 3], fCall m_fewest_moves [fName 3]], fTup [fBin ixD (fBin ixD (fName 6) (fC (.int 0))) (fC (.int 1)), fIf (tVal (fBin PI.eqD (fUn lenSetD (fName 3)) (fName 4))) (fBin subD (fName 4) (fName 7)) (fC .none)]]))) (sRet (fC (.bool false))) (sSkip)
def b_law_s6 : FS := sIf (PI.tNot (tVal (fCall (m__law_same 6) [fCall m_are_staying [fName 3, fName 8], fCall m__law_stay [fName 3, fName 8]]))) (sRet (fC (.bool false))) (sSkip)
def b_law_L1 : FS := b_law_s6
def b_law_s7 : FS := sFor (iSeq (fComp [16] (iRange1 (fC (.int 5))) (gName 16) (PI.tYes) (fCallIO m__law_some 1 [fName 5]))) (gName 8) (b_law_L1)
def b_law_s8 : FS := sIf (PI.tOr (PI.tNot (tVal (fUn (instD "tuple") (fName 9)))) (PI.tOr (tVal (fBin PI.neD (fBi lenD [fName 9]) (fName 7))) (PI.tNot (tVal (fCall m__law_is_paper [fName 3, fName 7, fName 9]))))) (sRet (fC (.bool false))) (sSkip)
def b_law_s9 : FS := sSet 10 (fCallIO m__law_roll 1 [fBi lenD [fName 9]])
def b_law_s10 : FS := sSet 11 (fLst [fName 9, fUn revD (fName 9), fSlice (fName 9) (some (fC (.int 1))) none, fBin addD (fName 9) (fTup [fTup []])])
def b_law_s11 : FS := sSet 11 (fBin addD (fName 11) (fLst [fBin addD (fBin addD (fSlice (fName 9) none (some (fName 10))) (fTup [fSlice (fBin ixD (fName 9) (fName 10)) (some (fC (.int 1))) none])) (fSlice (fName 9) (some (fBin addD (fName 10) (fC (.int 1)))) none), fBin addD (fBin addD (fSlice (fName 9) none (some (fName 10))) (fTup [fBin addD (fBin ixD (fName 9) (fName 10)) (fSlice (fBin ixD (fName 9) (fName 10)) (some (fUn negD (fC (.int 1)))) none)])) (fSlice (fName 9) (some (fBin addD (fName 10) (fC (.int 1)))) none), fBi tupleD [fComp [17] (iRange1 (fName 4)) (gName 17) (PI.tYes) (fTup [fName 17])], fTup [fTupRg (rg1 (fName 4))]]))
def b_law_s12 : FS := sApp 11 (fBin addD (fTup [fBi tupleD [fBi sortAT [fBin addD (fBin ixD (fName 9) (fC (.int 0))) (fBin ixD (fName 9) (fC (.int 1)))]]]) (fSlice (fName 9) (some (fC (.int 2))) none))
def b_law_s13 : FS := sIf (tVal (fBin gtD (fName 7) (fC (.int 1)))) (b_law_s12) (sSkip)
def b_law_s14 : FS := sIf (PI.tNot (tVal (fCall (m__law_same 6) [fCall m_is_rows_paper [fName 3, fName 13, fName 12], fCall m__law_is_paper [fName 3, fName 13, fName 12]]))) (sRet (fC (.bool false))) (sSkip)
def b_law_L2 : FS := b_law_s14
def b_law_s15 : FS := sFor (iSeq (fTup [fName 7, fBin subD (fName 7) (fC (.int 1)), fBin addD (fName 7) (fC (.int 1)), fName 4])) (gName 13) (b_law_L2)
def b_law_L3 : FS := b_law_s15
def b_law_s16 : FS := sFor (iSeq (fName 11)) (gName 12) (b_law_L3)
def b_law_s17 : FS := sSet 14 (fLst [fC .none, fBi listD [fName 9], fBin addD (fSlice (fName 9) none (some (fUn negD (fC (.int 1))))) (fTup [fC .none]), fBin addD (fSlice (fName 9) none (some (fUn negD (fC (.int 1))))) (fTup [fBi listD [fBin ixD (fName 9) (fUn negD (fC (.int 1)))]]), fBin addD (fSlice (fName 9) none (some (fUn negD (fC (.int 1))))) (fTup [fTup [fName 4]]), fBin addD (fSlice (fName 9) none (some (fUn negD (fC (.int 1))))) (fTup [fTup [fUn negD (fC (.int 1))]]), fBin addD (fSlice (fName 9) none (some (fUn negD (fC (.int 1))))) (fTup [fTup [fC (.bool true)]]), fBin addD (fSlice (fName 9) none (some (fUn negD (fC (.int 1))))) (fTup [fC (.int 0)]), fC (.int 5)])
def b_law_s18 : FS := sIf (tVal (fBin PI.neD (fComp [18] (iSeq (fName 14)) (gName 18) (tVal (fBin isNotD (fCall m_is_rows_paper [fName 3, fC (.int 10), fName 18]) (fC (.bool false)))) (fName 18)) (fLst []))) (sRet (fC (.bool false))) (sSkip)
def b_law_s19 : FS := sSet 14 (fBin addD (fLst [fC .none, fLst [fC (.int 0)], fTup [fC (.int 0), fC (.int 0)], fTup [fName 4], fTup [fUn negD (fC (.int 1))], fTup [fC (.bool false)], fTup [fC (.str "0")], fC (.int 5)]) (fIf (tVal (fBin gtD (fName 4) (fC (.int 1)))) (fLst [fTup [fC (.int 1), fC (.int 0)]]) (fLst [])))
def b_law_s20 : FS := sIf (tVal (fBin PI.neD (fComp [18] (iSeq (fName 14)) (gName 18) (tVal (fBin isNotD (fCall m_are_staying [fName 3, fName 18]) (fC (.bool false)))) (fName 18)) (fLst []))) (sRet (fC (.bool false))) (sSkip)
def b_law_L4 : FS := sSeq (b_law_s1)
  (sSeq (b_law_s2)
  (sSeq (b_law_s3)
  (sSeq (b_law_s4)
  (sSeq (b_law_s5)
  (sSeq (b_law_s7)
  (sSeq (sSet 9 (fCall m_rows_paper [fName 3]))
  (sSeq (b_law_s8)
  (sSeq (b_law_s9)
  (sSeq (b_law_s10)
  (sSeq (b_law_s11)
  (sSeq (b_law_s13)
  (sSeq (b_law_s16)
  (sSeq (b_law_s17)
  (sSeq (b_law_s18)
  (sSeq (b_law_s19)
  (b_law_s20))))))))))))))))
def b_law_s21 : FS := sFor (iRange1 (fC (.int 4))) (gName 2) (b_law_L4)
def b_law_s22 : FS := sSet 4 (fBin addD (fC (.int 1)) (fCallIO m__law_roll 1 [fC (.int 10)]))
def b_law_s23 : FS := sSet 15 (fTupDown [fBin addD (fName 4) (fC (.int 3)), fC (.int 3), fUn negD (fC (.int 1))])
def b_law_s24 : FS := sSet 9 (fTup [fCall m_stays [fName 15], fCall m_rows_paper [fName 15], fCall m_stays [fUn revD (fName 15)], fBi lenD [fCall m_rows_paper [fUn revD (fName 15)]], fCall m_fewest_moves [fName 15], fCall m_fewest_moves [fUn revD (fName 15)]])
def b_law_s25 : FS := sRet (fCall (m__law_same 6) [fName 9, fTup [fTup [fC (.int 0)], fTup [fTupRg (rg1 (fName 4))], fTupRg (rg1 (fName 4)), fName 4, fBin subD (fName 4) (fC (.int 1)), fC (.int 0)]])
def b_law : FS := sSeq (b_law_s21)
  (sSeq (b_law_s22)
  (sSeq (b_law_s23)
  (sSeq (b_law_s24)
  (b_law_s25))))
end Mir
set_option autoImplicit true
set_option Elab.async false
set_option linter.all false
set_option maxRecDepth 100000
set_option maxHeartbeats 4000000
namespace Mir
open PySem PySem.Spec PyProof.Rows L2 PI

def topS (i : Nat) : Stmt := PySem.Challenge.pw_rehearsals_k82_whole_who_stays_and_paper.main.body.getD i (.Pass ⟨0, 0, 0, 0⟩)
structure Tg (mg : Str → Option Value) : Prop where
  g_abs : mg "abs" = none
  g_all : mg "all" = none
  g_bool : mg "bool" = none
  g_enumerate : mg "enumerate" = none
  g_int : mg "int" = none
  g_isinstance : mg "isinstance" = none
  g_len : mg "len" = none
  g_list : mg "list" = none
  g_max : mg "max" = none
  g_range : mg "range" = none
  g_set : mg "set" = none
  g_sorted : mg "sorted" = none
  g_str : mg "str" = none
  g_tuple : mg "tuple" = none
  g_zip : mg "zip" = none
  g_HEIGHT : ∃ t, mg "HEIGHT" = some (.int (30) t)
  g_PEOPLE : ∃ t, mg "PEOPLE" = some (.int (10) t)
abbrev s_is_whole : Stmt := topS 5
theorem sc_is_whole : FnScope ["value", "low", "high"] ["value", "low", "high"] (defScope s_is_whole) := ⟨rfl, rfl, rfl, by decide +kernel, rfl, by decide +kernel, by decide +kernel⟩
abbrev s_is_tuple_of : Stmt := topS 6
theorem sc_is_tuple_of : FnScope ["value", "low", "high"] ["value", "low", "high"] (defScope s_is_tuple_of) := ⟨rfl, rfl, rfl, by decide +kernel, rfl, by decide +kernel, by decide +kernel⟩
abbrev s_is_rising : Stmt := topS 7
theorem sc_is_rising : FnScope ["value", "one", "other"] ["value"] (defScope s_is_rising) := ⟨rfl, rfl, rfl, by decide +kernel, rfl, by decide +kernel, by decide +kernel⟩
abbrev s_fits_some : Stmt := topS 8
theorem sc_fits_some : FnScope ["many", "value", "one"] ["many", "value"] (defScope s_fits_some) := ⟨rfl, rfl, rfl, by decide +kernel, rfl, by decide +kernel, by decide +kernel⟩
abbrev s_subsets_of : Stmt := topS 9
theorem sc_subsets_of : FnScope ["many", "found", "at", "one"] ["many"] (defScope s_subsets_of) := ⟨rfl, rfl, rfl, by decide +kernel, rfl, by decide +kernel, by decide +kernel⟩
abbrev s_fits_file : Stmt := topS 13
theorem sc_fits_file : FnScope ["value", "one"] ["value"] (defScope s_fits_file) := ⟨rfl, rfl, rfl, by decide +kernel, rfl, by decide +kernel, by decide +kernel⟩
abbrev s_need_file : Stmt := topS 14
theorem sc_need_file : FnScope ["file"] ["file"] (defScope s_need_file) := ⟨rfl, rfl, rfl, by decide +kernel, rfl, by decide +kernel, by decide +kernel⟩
abbrev s_rising_in : Stmt := topS 15
theorem sc_rising_in : FnScope ["file", "some", "heights", "at", "one", "other"] ["file", "some"] (defScope s_rising_in) := ⟨rfl, rfl, rfl, by decide +kernel, rfl, by decide +kernel, by decide +kernel⟩
abbrev s_falling_in : Stmt := topS 16
theorem sc_falling_in : FnScope ["file", "some", "heights", "at", "one", "other"] ["file", "some"] (defScope s_falling_in) := ⟨rfl, rfl, rfl, by decide +kernel, rfl, by decide +kernel, by decide +kernel⟩
abbrev s_longest_in : Stmt := topS 17
theorem sc_longest_in : FnScope ["file", "found", "at", "height", "ahead", "by"] ["file"] (defScope s_longest_in) := ⟨rfl, rfl, rfl, by decide +kernel, rfl, by decide +kernel, by decide +kernel⟩
abbrev s_who_stays : Stmt := topS 18
theorem sc_who_stays : FnScope ["file", "most", "rows", "some"] ["file"] (defScope s_who_stays) := ⟨rfl, rfl, rfl, by decide +kernel, rfl, by decide +kernel, by decide +kernel⟩
abbrev s_stays : Stmt := topS 19
theorem sc_stays : FnScope ["file"] ["file"] (defScope s_stays) := ⟨rfl, rfl, rfl, by decide +kernel, rfl, by decide +kernel, by decide +kernel⟩
abbrev s_are_staying : Stmt := topS 20
theorem sc_are_staying : FnScope ["file", "value"] ["file", "value"] (defScope s_are_staying) := ⟨rfl, rfl, rfl, by decide +kernel, rfl, by decide +kernel, by decide +kernel⟩
abbrev s_rows_paper : Stmt := topS 21
theorem sc_rows_paper : FnScope ["file", "long", "many", "at"] ["file"] (defScope s_rows_paper) := ⟨rfl, rfl, rfl, by decide +kernel, rfl, by decide +kernel, by decide +kernel⟩
abbrev s_is_rows_paper : Stmt := topS 22
theorem sc_is_rows_paper : FnScope ["file", "many", "value", "places", "row", "at"] ["file", "many", "value"] (defScope s_is_rows_paper) := ⟨rfl, rfl, rfl, by decide +kernel, rfl, by decide +kernel, by decide +kernel⟩
abbrev s_fewest_moves : Stmt := topS 23
theorem sc_fewest_moves : FnScope ["file"] ["file"] (defScope s_fewest_moves) := ⟨rfl, rfl, rfl, by decide +kernel, rfl, by decide +kernel, by decide +kernel⟩
abbrev s__law_cup : Stmt := topS 25
theorem sc__law_cup : FnScope ["script", "cell"] ["script"] (defScope s__law_cup) := ⟨rfl, rfl, rfl, by decide +kernel, rfl, by decide +kernel, by decide +kernel⟩
abbrev s__law_roll : Stmt := topS 26
theorem sc__law_roll : FnScope ["cup", "many", "found", "deep"] ["cup", "many"] (defScope s__law_roll) := ⟨rfl, rfl, rfl, by decide +kernel, rfl, by decide +kernel, by decide +kernel⟩
abbrev s__law_some : Stmt := topS 27
theorem sc__law_some : FnScope ["cup", "things"] ["cup", "things"] (defScope s__law_some) := ⟨rfl, rfl, rfl, by decide +kernel, rfl, by decide +kernel, by decide +kernel⟩
abbrev s__law_same : Stmt := topS 28
theorem sc__law_same : FnScope ["told", "due", "at"] ["told", "due"] (defScope s__law_same) := ⟨rfl, rfl, rfl, by decide +kernel, rfl, by decide +kernel, by decide +kernel⟩
abbrev s__law_subsets : Stmt := topS 29
theorem sc__law_subsets : FnScope ["things", "found", "thing", "one"] ["things"] (defScope s__law_subsets) := ⟨rfl, rfl, rfl, by decide +kernel, rfl, by decide +kernel, by decide +kernel⟩
abbrev s__law_file : Stmt := topS 30
theorem sc__law_file : FnScope ["cup", "most", "size", "turn"] ["cup", "most"] (defScope s__law_file) := ⟨rfl, rfl, rfl, by decide +kernel, rfl, by decide +kernel, by decide +kernel⟩
abbrev s__law_sees : Stmt := topS 31
theorem sc__law_sees : FnScope ["tops", "found", "high", "at"] ["tops"] (defScope s__law_sees) := ⟨rfl, rfl, rfl, by decide +kernel, rfl, by decide +kernel, by decide +kernel⟩
abbrev s__law_stay : Stmt := topS 32
theorem sc__law_stay : FnScope ["file", "some", "at"] ["file", "some"] (defScope s__law_stay) := ⟨rfl, rfl, rfl, by decide +kernel, rfl, by decide +kernel, by decide +kernel⟩
abbrev s__law_joined : Stmt := topS 33
theorem sc__law_joined : FnScope ["rows", "found", "row"] ["rows"] (defScope s__law_joined) := ⟨rfl, rfl, rfl, by decide +kernel, rfl, by decide +kernel, by decide +kernel⟩
abbrev s__law_is_paper : Stmt := topS 34
theorem sc__law_is_paper : FnScope ["file", "many", "value", "row", "one", "other"] ["file", "many", "value"] (defScope s__law_is_paper) := ⟨rfl, rfl, rfl, by decide +kernel, rfl, by decide +kernel, by decide +kernel⟩
abbrev s_law : Stmt := topS 35
theorem sc_law : FnScope ["script", "cup", "turn", "file", "many", "every", "good", "most", "some", "told", "at", "values", "value", "size", "odds", "down", "more", "place", "odd"] ["script"] (defScope s_law) := ⟨rfl, rfl, rfl, by decide +kernel, rfl, by decide +kernel, by decide +kernel⟩
section
variable [PI.Tables] {P : Program} {w : World} {K : PySem.W.Frag} {mg : Str → Option Value} {base : Heap}
theorem ok_is_whole {f : Addr} {fd : FuncData} (F : Fun K "is_whole" "is_whole" s_is_whole f fd) (T : Tg mg)  : FnOk P w K mg base CX0 1 f fd ["value", "low", "high"] (spF Z0 (m_is_whole) 3) :=
  fn_pure (N := ["value", "low", "high"]) (ps := ["value", "low", "high"]) (body := b_is_whole) F sc_is_whole fun cdv A outer s H E hr => (gss_one (gs_ret (ge_and (ge_isinst kit_int T.g_isinstance T.g_int (by decide +kernel) (ge_name 0)) (ge_and (ge_not (ge_isinst kit_bool T.g_isinstance T.g_bool (by decide +kernel) (ge_name 0))) (ge_one (ge_chain (op_leD (hu64 hr)) (op_leD (hu64 hr)) (ge_name 1) (ge_name 0) (ge_name 2)))))))
theorem ok_is_tuple_of {f : Addr} {fd : FuncData} (F : Fun K "is_tuple_of" "is_tuple_of" s_is_tuple_of f fd) (T : Tg mg)  : FnOk P w K mg base CX0 1 f fd ["value", "low", "high"] (spF Z0 (m_is_tuple_of) 3) :=
  fn_pure (N := ["value", "low", "high"]) (ps := ["value", "low", "high"]) (body := b_is_tuple_of) F sc_is_tuple_of fun cdv A outer s H E hr => (gss_one (gs_ret (ge_and (ge_isinst kit_tuple T.g_isinstance T.g_tuple (by decide +kernel) (ge_name 0)) (ge_one (ge_chain (op_leD (hu64 hr)) (op_leD (hu64 hr)) (ge_name 1) (ge_bi cr_lenD rfl T.g_len (by decide +kernel) (gh_cons (ge_name 0) (gh_nil))) (ge_name 2))))))
theorem ok_is_rising {f : Addr} {fd : FuncData} (F : Fun K "is_rising" "is_rising" s_is_rising f fd) (T : Tg mg)  : FnOk P w K mg base CX0 1 f fd ["value"] (spF Z0 (m_is_rising) 1) :=
  fn_pure (N := ["value", "one", "other"]) (ps := ["value"]) (body := b_is_rising) F sc_is_rising fun cdv A outer s H E hr => (gss_one (gs_ret (ge_bi (cr_allD rfl) rfl T.g_all (by decide +kernel) (gh_cons (ge_lc (E' := F0) (own := [("one", 1), ("other", 2)]) rfl sc_is_rising.nd (gi_zip T.g_zip (ge_name 0) (ge_slice (ge_name 0) (go_some (ge_int)) go_none)) (blkOk_by rfl) (by decide) (fun _ _ _ _ _ => gg_tup rfl (ggs_cons (gg_name 1 sc_is_rising.nd) (ggs_cons (gg_name 2 sc_is_rising.nd) (ggs_nil)))) (fun _ _ _ _ _ => gts_nil) (fun _ _ _ _ _ => ge_cmp (op_ltD (hu64 hr)) (ge_name 1) (ge_name 2))) (gh_nil)))))
theorem ok_fits_some {f : Addr} {fd : FuncData} (F : Fun K "fits_some" "fits_some" s_fits_some f fd) (T : Tg mg) (G_is_rising : Prom P w K mg base 1 "is_rising" ["value"] (spF Z0 (m_is_rising) 1)) (G_is_tuple_of : Prom P w K mg base 1 "is_tuple_of" ["value", "low", "high"] (spF Z0 (m_is_tuple_of) 3)) (G_is_whole : Prom P w K mg base 1 "is_whole" ["value", "low", "high"] (spF Z0 (m_is_whole) 3)) : FnOk P w K mg base CX0 2 f fd ["many", "value"] (spF Z0 (m_fits_some) 2) :=
  fn_pure (N := ["many", "value", "one"]) (ps := ["many", "value"]) (body := b_fits_some) F sc_fits_some fun cdv A outer s H E hr => (gss_one (gs_ret (ge_and (ge_callP G_is_tuple_of (hr.mono (by decide)) (ga_cons (ge_name 1) (ga_cons (ge_int) (ga_cons (ge_name 0) (ga_nil))))) (ge_and (ge_bi (cr_allD rfl) rfl T.g_all (by decide +kernel) (gh_cons (ge_lc (E' := F0) (own := [("one", 2)]) rfl sc_fits_some.nd (gi_seq (ge_name 1)) (blkOk_by rfl) (by decide) (fun _ _ _ _ _ => gg_name 2 sc_fits_some.nd) (fun _ _ _ _ _ => gts_nil) (fun _ _ _ _ _ => ge_callP G_is_whole (hr.mono (by decide)) (ga_cons (ge_name 2) (ga_cons (ge_int) (ga_cons (ge_op op_subD (ge_name 0) (ge_int)) (ga_nil)))))) (gh_nil))) (ge_one (ge_callP G_is_rising (hr.mono (by decide)) (ga_cons (ge_name 1) (ga_nil))))))))
abbrev q_subsets_of : Str := ((("subsets_of" : Str) ++ ".<locals>.") ++ "<lambda>")
theorem ok_subsets_of {cT PT : Addr} {f : Addr} {fd : FuncData} (F : FunC cT K "subsets_of" "subsets_of" s_subsets_of f fd) (TB : LamX.TabB base mg cT PT) (hT : (PT, q_subsets_of) ∈ PI.Tables.T) (hu : ∀ z ∈ PI.Tables.T, z.1 = PT → z.2 = q_subsets_of) (T : Tg mg)  : FnOk P w K mg base CX0 1 f fd ["many"] (spF Z0 (m_subsets_of) 1) :=
  fn_pureC (c := cT) (N := ["many", "found", "at", "one"]) (ps := ["many"]) (body := b_subsets_of) F sc_subsets_of fun A outer s H E hr => (gss_cons (gs_set 1 sc_subsets_of.nd (ge_lst (ga_cons (ge_tup (ga_nil)) (ga_nil))))
  (gss_cons (gs_for PassesOwn.never rfl (gi_range1 rfl T.g_range (ge_name 0)) (gg_name 2 sc_subsets_of.nd) (gss_one (gs_set 1 sc_subsets_of.nd (ge_op op_addD (ge_name 1) (ge_lc (E' := F0) (own := [("one", 3)]) rfl sc_subsets_of.nd (gi_seq (ge_name 1)) (blkOk_by rfl) (by decide) (fun _ _ _ _ _ => gg_name 3 sc_subsets_of.nd) (fun _ _ _ _ _ => gts_nil) (fun _ _ _ _ _ => ge_op op_addD (ge_name 3) (ge_tup (ga_cons (ge_name 2) (ga_nil)))))))))
  (gss_one (gs_ret (ge_sortLen rfl hr T.g_sorted T.g_len (ge_name 1) TB rfl hT hu)))))
theorem ok_fits_file {f : Addr} {fd : FuncData} (F : Fun K "fits_file" "fits_file" s_fits_file f fd) (T : Tg mg) (G_is_tuple_of : Prom P w K mg base 1 "is_tuple_of" ["value", "low", "high"] (spF Z0 (m_is_tuple_of) 3)) (G_is_whole : Prom P w K mg base 1 "is_whole" ["value", "low", "high"] (spF Z0 (m_is_whole) 3)) : FnOk P w K mg base CX0 2 f fd ["value"] (spF Z0 (m_fits_file) 1) :=
  fn_pure (N := ["value", "one"]) (ps := ["value"]) (body := b_fits_file) F sc_fits_file fun cdv A outer s H E hr => (gss_one (gs_ret (ge_and (ge_callP G_is_tuple_of (hr.mono (by decide)) (ga_cons (ge_name 0) (ga_cons (ge_int) (ga_cons (ge_globE T.g_PEOPLE) (ga_nil))))) (ge_one (ge_bi (cr_allD rfl) rfl T.g_all (by decide +kernel) (gh_cons (ge_lc (E' := F0) (own := [("one", 1)]) rfl sc_fits_file.nd (gi_seq (ge_name 0)) (blkOk_by rfl) (by decide) (fun _ _ _ _ _ => gg_name 1 sc_fits_file.nd) (fun _ _ _ _ _ => gts_nil) (fun _ _ _ _ _ => ge_callP G_is_whole (hr.mono (by decide)) (ga_cons (ge_name 1) (ga_cons (ge_int) (ga_cons (ge_globE T.g_HEIGHT) (ga_nil)))))) (gh_nil)))))))
theorem ok_need_file {f : Addr} {fd : FuncData} (F : Fun K "need_file" "need_file" s_need_file f fd) (T : Tg mg) (G_fits_file : Prom P w K mg base 2 "fits_file" ["value"] (spF Z0 (m_fits_file) 1)) : FnOk P w K mg base CX0 3 f fd ["file"] (spF Z0 (m_need_file) 1) :=
  fn_pure (N := ["file"]) (ps := ["file"]) (body := b_need_file) F sc_need_file fun cdv A outer s H E hr => (gss_one (gs_if (gt_not (gt_val (ge_callP G_fits_file (hr.mono (by decide)) (ga_cons (ge_name 0) (ga_nil))))) (gss_one (gs_raise0)) (gss_nil)))
theorem ok_rising_in {f : Addr} {fd : FuncData} (F : Fun K "rising_in" "rising_in" s_rising_in f fd) (T : Tg mg)  : FnOk P w K mg base CX0 1 f fd ["file", "some"] (spF Z0 (m_rising_in) 2) :=
  fn_pure (N := ["file", "some", "heights", "at", "one", "other"]) (ps := ["file", "some"]) (body := b_rising_in) F sc_rising_in fun cdv A outer s H E hr => (gss_cons (gs_setLc (E' := F0) 2 (own := [("at", 3)]) rfl sc_rising_in.nd rfl rfl (sw_true rfl rfl rfl (by decide +kernel)) (gi_seq (ge_name 1)) (blkOk_by rfl) (by decide) (fun _ _ _ _ _ => gg_name 3 sc_rising_in.nd) (fun _ _ _ _ _ => gts_nil) (fun _ _ _ _ _ => ge_ix (ix_D (hu64 hr)) (ge_name 0) (ge_name 3)))
  (gss_one (gs_ret (ge_bi (cr_allD rfl) rfl T.g_all (by decide +kernel) (gh_cons (ge_lc (E' := F0) (own := [("one", 4), ("other", 5)]) rfl sc_rising_in.nd (gi_zip T.g_zip (ge_name 2) (ge_slice (ge_name 2) (go_some (ge_int)) go_none)) (blkOk_by rfl) (by decide) (fun _ _ _ _ _ => gg_tup rfl (ggs_cons (gg_name 4 sc_rising_in.nd) (ggs_cons (gg_name 5 sc_rising_in.nd) (ggs_nil)))) (fun _ _ _ _ _ => gts_nil) (fun _ _ _ _ _ => ge_cmp (op_ltD (hu64 hr)) (ge_name 4) (ge_name 5))) (gh_nil))))))
theorem ok_falling_in {f : Addr} {fd : FuncData} (F : Fun K "falling_in" "falling_in" s_falling_in f fd) (T : Tg mg)  : FnOk P w K mg base CX0 1 f fd ["file", "some"] (spF Z0 (m_falling_in) 2) :=
  fn_pure (N := ["file", "some", "heights", "at", "one", "other"]) (ps := ["file", "some"]) (body := b_falling_in) F sc_falling_in fun cdv A outer s H E hr => (gss_cons (gs_setLc (E' := F0) 2 (own := [("at", 3)]) rfl sc_falling_in.nd rfl rfl (sw_true rfl rfl rfl (by decide +kernel)) (gi_seq (ge_name 1)) (blkOk_by rfl) (by decide) (fun _ _ _ _ _ => gg_name 3 sc_falling_in.nd) (fun _ _ _ _ _ => gts_nil) (fun _ _ _ _ _ => ge_ix (ix_D (hu64 hr)) (ge_name 0) (ge_name 3)))
  (gss_one (gs_ret (ge_bi (cr_allD rfl) rfl T.g_all (by decide +kernel) (gh_cons (ge_lc (E' := F0) (own := [("one", 4), ("other", 5)]) rfl sc_falling_in.nd (gi_zip T.g_zip (ge_name 2) (ge_slice (ge_name 2) (go_some (ge_int)) go_none)) (blkOk_by rfl) (by decide) (fun _ _ _ _ _ => gg_tup rfl (ggs_cons (gg_name 4 sc_falling_in.nd) (ggs_cons (gg_name 5 sc_falling_in.nd) (ggs_nil)))) (fun _ _ _ _ _ => gts_nil) (fun _ _ _ _ _ => ge_cmp (op_geD (hu64 hr)) (ge_name 4) (ge_name 5))) (gh_nil))))))
theorem ok_longest_in {f : Addr} {fd : FuncData} (F : Fun K "longest_in" "longest_in" s_longest_in f fd) (T : Tg mg)  : FnOk P w K mg base CX0 1 f fd ["file"] (spF Z0 (m_longest_in) 1) :=
  fn_pure (N := ["file", "found", "at", "height", "ahead", "by"]) (ps := ["file"]) (body := b_longest_in) F sc_longest_in fun cdv A outer s H E hr => (gss_cons (gs_set 1 sc_longest_in.nd (ge_lst (ga_nil)))
  (gss_cons (gs_for PassesOwn.never rfl (gi_enum T.g_enumerate (ge_name 0)) (gg_tup rfl (ggs_cons (gg_name 2 sc_longest_in.nd) (ggs_cons (gg_name 3 sc_longest_in.nd) (ggs_nil)))) (gss_cons (gs_setLc (E' := F0) 4 (own := [("by", 5)]) rfl sc_longest_in.nd rfl rfl (sw_true rfl rfl rfl (by decide +kernel)) (gi_range1 rfl T.g_range (ge_name 2)) (blkOk_by rfl) (by decide) (fun _ _ _ _ _ => gg_name 5 sc_longest_in.nd) (fun _ _ _ _ _ => gts_one (gt_cmp (op_ltD (hu64 hr)) (ge_ix (ix_D (hu64 hr)) (ge_name 0) (ge_name 5)) (ge_name 3))) (fun _ _ _ _ _ => ge_ix (ix_D (hu64 hr)) (ge_name 1) (ge_name 5)))
  (gss_one (gs_app 1 (pv 1) (ge_op op_addD (ge_int) (ge_bi (cr_maxD rfl) rfl T.g_max (by decide +kernel) (gh_cons (ge_op op_addD (ge_name 4) (ge_lst (ga_cons (ge_int) (ga_nil)))) (gh_nil))))))))
  (gss_one (gs_ret (ge_name 1)))))
theorem ok_who_stays {f : Addr} {fd : FuncData} (F : Fun K "who_stays" "who_stays" s_who_stays f fd) (T : Tg mg) (G_longest_in : Prom P w K mg base 1 "longest_in" ["file"] (spF Z0 (m_longest_in) 1)) (G_rising_in : Prom P w K mg base 1 "rising_in" ["file", "some"] (spF Z0 (m_rising_in) 2)) (G_subsets_of : Prom P w K mg base 1 "subsets_of" ["many"] (spF Z0 (m_subsets_of) 1)) : FnOk P w K mg base CX0 2 f fd ["file"] (spF Z0 (m_who_stays) 1) :=
  fn_pure (N := ["file", "most", "rows", "some"]) (ps := ["file"]) (body := b_who_stays) F sc_who_stays fun cdv A outer s H E hr => (gss_cons (gs_set 1 sc_who_stays.nd (ge_bi (cr_maxD rfl) rfl T.g_max (by decide +kernel) (gh_cons (ge_callP G_longest_in (hr.mono (by decide)) (ga_cons (ge_name 0) (ga_nil))) (gh_nil))))
  (gss_cons (gs_setLc (E' := F0) 2 (own := [("some", 3)]) rfl sc_who_stays.nd rfl rfl (sw_true rfl rfl rfl (by decide +kernel)) (gi_seq (ge_callP G_subsets_of (hr.mono (by decide)) (ga_cons (ge_bi cr_lenD rfl T.g_len (by decide +kernel) (gh_cons (ge_name 0) (gh_nil))) (ga_nil)))) (blkOk_by rfl) (by decide) (fun _ _ _ _ _ => gg_name 3 sc_who_stays.nd) (fun _ _ _ _ _ => gts_one (gt_w (gw_and (gt_cmp (op_eqD' (hu64 hr)) (ge_bi cr_lenD rfl T.g_len (by decide +kernel) (gh_cons (ge_name 3) (gh_nil))) (ge_name 1)) (gw_and1 (gt_val (ge_callP G_rising_in (hr.mono (by decide)) (ga_cons (ge_name 0) (ga_cons (ge_name 3) (ga_nil))))))))) (fun _ _ _ _ _ => ge_name 3))
  (gss_one (gs_ret (ge_ix (ix_D (hu64 hr)) (ge_name 2) (ge_int))))))
theorem ok_stays {f : Addr} {fd : FuncData} (F : Fun K "stays" "stays" s_stays f fd) (T : Tg mg) (G_need_file : Prom P w K mg base 3 "need_file" ["file"] (spF Z0 (m_need_file) 1)) (G_who_stays : Prom P w K mg base 2 "who_stays" ["file"] (spF Z0 (m_who_stays) 1)) : FnOk P w K mg base CX0 4 f fd ["file"] (spF Z0 (m_stays) 1) :=
  fn_pure (N := ["file"]) (ps := ["file"]) (body := b_stays) F sc_stays fun cdv A outer s H E hr => (gss_cons (gs_expr (ge_callP G_need_file (hr.mono (by decide)) (ga_cons (ge_name 0) (ga_nil))))
  (gss_one (gs_ret (ge_callP G_who_stays (hr.mono (by decide)) (ga_cons (ge_name 0) (ga_nil))))))
theorem ok_are_staying {f : Addr} {fd : FuncData} (F : Fun K "are_staying" "are_staying" s_are_staying f fd) (T : Tg mg) (G_fits_some : Prom P w K mg base 2 "fits_some" ["many", "value"] (spF Z0 (m_fits_some) 2)) (G_need_file : Prom P w K mg base 3 "need_file" ["file"] (spF Z0 (m_need_file) 1)) (G_rising_in : Prom P w K mg base 1 "rising_in" ["file", "some"] (spF Z0 (m_rising_in) 2)) : FnOk P w K mg base CX0 4 f fd ["file", "value"] (spF Z0 (m_are_staying) 2) :=
  fn_pure (N := ["file", "value"]) (ps := ["file", "value"]) (body := b_are_staying) F sc_are_staying fun cdv A outer s H E hr => (gss_cons (gs_expr (ge_callP G_need_file (hr.mono (by decide)) (ga_cons (ge_name 0) (ga_nil))))
  (gss_one (gs_ret (ge_and (ge_callP G_fits_some (hr.mono (by decide)) (ga_cons (ge_bi cr_lenD rfl T.g_len (by decide +kernel) (gh_cons (ge_name 0) (gh_nil))) (ga_cons (ge_name 1) (ga_nil)))) (ge_one (ge_callP G_rising_in (hr.mono (by decide)) (ga_cons (ge_name 0) (ga_cons (ge_name 1) (ga_nil)))))))))
theorem ok_rows_paper {f : Addr} {fd : FuncData} (F : Fun K "rows_paper" "rows_paper" s_rows_paper f fd) (T : Tg mg) (G_longest_in : Prom P w K mg base 1 "longest_in" ["file"] (spF Z0 (m_longest_in) 1)) (G_need_file : Prom P w K mg base 3 "need_file" ["file"] (spF Z0 (m_need_file) 1)) : FnOk P w K mg base CX0 4 f fd ["file"] (spF Z0 (m_rows_paper) 1) :=
  fn_pure (N := ["file", "long", "many", "at"]) (ps := ["file"]) (body := b_rows_paper) F sc_rows_paper fun cdv A outer s H E hr => (gss_cons (gs_expr (ge_callP G_need_file (hr.mono (by decide)) (ga_cons (ge_name 0) (ga_nil))))
  (gss_cons (gs_set 1 sc_rows_paper.nd (ge_callP G_longest_in (hr.mono (by decide)) (ga_cons (ge_name 0) (ga_nil))))
  (gss_one (gs_ret (ge_ty cr_tupleD rfl T.g_tuple (by decide +kernel) (gh_cons (ge_lc (E' := F0) (own := [("many", 2)]) rfl sc_rows_paper.nd (gi_range2 rfl T.g_range (ge_int) (ge_op op_addD (ge_bi (cr_maxD rfl) rfl T.g_max (by decide +kernel) (gh_cons (ge_name 1) (gh_nil))) (ge_int))) (blkOk_by rfl) (by decide) (fun _ _ _ _ _ => gg_name 2 sc_rows_paper.nd) (fun _ _ _ _ _ => gts_nil) (fun _ _ _ _ _ => ge_ty cr_tupleD rfl T.g_tuple (by decide +kernel) (gh_cons (ge_lc (E' := F0) (own := [("at", 3)]) rfl sc_rows_paper.nd (gi_range1 rfl T.g_range (ge_bi cr_lenD rfl T.g_len (by decide +kernel) (gh_cons (ge_name 0) (gh_nil)))) (blkOk_by rfl) (by decide) (fun _ _ _ _ _ => gg_name 3 sc_rows_paper.nd) (fun _ _ _ _ _ => gts_one (gt_cmp (op_eqD' (hu64 hr)) (ge_ix (ix_D (hu64 hr)) (ge_name 1) (ge_name 3)) (ge_name 2))) (fun _ _ _ _ _ => ge_name 3)) (gh_nil)))) (gh_nil)))))))
theorem ok_is_rows_paper {f : Addr} {fd : FuncData} (F : Fun K "is_rows_paper" "is_rows_paper" s_is_rows_paper f fd) (T : Tg mg) (G_falling_in : Prom P w K mg base 1 "falling_in" ["file", "some"] (spF Z0 (m_falling_in) 2)) (G_fits_some : Prom P w K mg base 2 "fits_some" ["many", "value"] (spF Z0 (m_fits_some) 2)) (G_is_tuple_of : Prom P w K mg base 1 "is_tuple_of" ["value", "low", "high"] (spF Z0 (m_is_tuple_of) 3)) (G_is_whole : Prom P w K mg base 1 "is_whole" ["value", "low", "high"] (spF Z0 (m_is_whole) 3)) (G_need_file : Prom P w K mg base 3 "need_file" ["file"] (spF Z0 (m_need_file) 1)) : FnOk P w K mg base CX0 4 f fd ["file", "many", "value"] (spF Z0 (m_is_rows_paper) 3) :=
  fn_pure (N := ["file", "many", "value", "places", "row", "at"]) (ps := ["file", "many", "value"]) (body := b_is_rows_paper) F sc_is_rows_paper fun cdv A outer s H E hr => (gss_cons (gs_expr (ge_callP G_need_file (hr.mono (by decide)) (ga_cons (ge_name 0) (ga_nil))))
  (gss_cons (gs_if (gt_not (gt_val (ge_callP G_is_whole (hr.mono (by decide)) (ga_cons (ge_name 1) (ga_cons (ge_int) (ga_cons (ge_globE T.g_PEOPLE) (ga_nil))))))) (gss_one (gs_raise0)) (gss_nil))
  (gss_cons (gs_if (gt_w (gw_or (gt_not (gt_val (ge_callP G_is_tuple_of (hr.mono (by decide)) (ga_cons (ge_name 2) (ga_cons (ge_int) (ga_cons (ge_name 1) (ga_nil))))))) (gw_or1 (gt_not (gt_val (ge_bi (cr_allD rfl) rfl T.g_all (by decide +kernel) (gh_cons (ge_lc (E' := F0) (own := [("row", 4)]) rfl sc_is_rows_paper.nd (gi_seq (ge_name 2)) (blkOk_by rfl) (by decide) (fun _ _ _ _ _ => gg_name 4 sc_is_rows_paper.nd) (fun _ _ _ _ _ => gts_nil) (fun _ _ _ _ _ => ge_callP G_fits_some (hr.mono (by decide)) (ga_cons (ge_bi cr_lenD rfl T.g_len (by decide +kernel) (gh_cons (ge_name 0) (gh_nil))) (ga_cons (ge_name 4) (ga_nil))))) (gh_nil)))))))) (gss_one (gs_ret (ge_bl))) (gss_nil))
  (gss_cons (gs_set 3 sc_is_rows_paper.nd (ge_bi (cr_sortA rfl (hu64 hr)) rfl T.g_sorted (by decide +kernel) (gh_cons (ge_lc2 (E' := F0) (own := [("row", 4), ("at", 5)]) (own1 := [5]) rfl sc_is_rows_paper.nd (gi_seq (ge_name 2)) (blkOk_by rfl) (by decide) (by decide) (by decide) (fun _ _ _ _ _ => gg_name 4 sc_is_rows_paper.nd) (fun _ _ _ _ _ => gts_nil) (fun _ _ _ _ _ => gi_seq (ge_name 4)) (fun _ _ _ _ _ => gg_name 5 sc_is_rows_paper.nd) (fun _ _ _ _ _ => gts_nil) (fun _ _ _ _ _ => ge_name 5)) (gh_nil))))
  (gss_one (gs_ret (ge_and (ge_cmp (op_eqD' (hu64 hr)) (ge_name 3) (ge_lstRg rfl T.g_list (grg_1 T.g_range (ge_bi cr_lenD rfl T.g_len (by decide +kernel) (gh_cons (ge_name 0) (gh_nil)))))) (ge_one (ge_bi (cr_allD rfl) rfl T.g_all (by decide +kernel) (gh_cons (ge_lc (E' := F0) (own := [("row", 4)]) rfl sc_is_rows_paper.nd (gi_seq (ge_name 2)) (blkOk_by rfl) (by decide) (fun _ _ _ _ _ => gg_name 4 sc_is_rows_paper.nd) (fun _ _ _ _ _ => gts_nil) (fun _ _ _ _ _ => ge_callP G_falling_in (hr.mono (by decide)) (ga_cons (ge_name 0) (ga_cons (ge_name 4) (ga_nil))))) (gh_nil)))))))))))
theorem ok_fewest_moves {f : Addr} {fd : FuncData} (F : Fun K "fewest_moves" "fewest_moves" s_fewest_moves f fd) (T : Tg mg) (G_longest_in : Prom P w K mg base 1 "longest_in" ["file"] (spF Z0 (m_longest_in) 1)) (G_need_file : Prom P w K mg base 3 "need_file" ["file"] (spF Z0 (m_need_file) 1)) : FnOk P w K mg base CX0 4 f fd ["file"] (spF Z0 (m_fewest_moves) 1) :=
  fn_pure (N := ["file"]) (ps := ["file"]) (body := b_fewest_moves) F sc_fewest_moves fun cdv A outer s H E hr => (gss_cons (gs_expr (ge_callP G_need_file (hr.mono (by decide)) (ga_cons (ge_name 0) (ga_nil))))
  (gss_cons (gs_if (gt_cmp (op_ltD (hu64 hr)) (ge_lenSet rfl T.g_len T.g_set (ge_name 0)) (ge_bi cr_lenD rfl T.g_len (by decide +kernel) (gh_cons (ge_name 0) (gh_nil)))) (gss_one (gs_ret (ge_non))) (gss_nil))
  (gss_one (gs_ret (ge_op op_subD (ge_bi cr_lenD rfl T.g_len (by decide +kernel) (gh_cons (ge_name 0) (gh_nil))) (ge_bi (cr_maxD rfl) rfl T.g_max (by decide +kernel) (gh_cons (ge_callP G_longest_in (hr.mono (by decide)) (ga_cons (ge_name 0) (ga_nil))) (gh_nil))))))))
theorem ok__law_cup (hm : ∀ c : Int, 0 ≤ c → ∃ x y env', okCup x y ∧ b__law_cup [none, some (.sh (.int c))] = .ok (.rt (.fr (.lst [.int x, .int y])) env')) {f : Addr} {fd : FuncData} (F : Fun K "_law_cup" "_law_cup" s__law_cup f fd) (T : Tg mg) : FnOk P w K mg base CX0 1 f fd ["script"] (spCup K okCup) :=
  cup_fn (body := b__law_cup) F sc__law_cup rfl rfl rfl rfl T.g_abs T.g_list (fun cdv A outer s H E hr => (gss_one (gs_ret (ge_lst (ga_cons (ge_if (gt_cmp (op_geD (hu64 hr)) (ge_name 1) (ge_op op_powD (ge_int) (ge_int))) (ge_op op_fdivD (ge_name 1) (ge_int)) (ge_int)) (ga_cons (ge_op op_addD (ge_op op_modD (ge_ty cr_intD rfl T.g_int (by decide +kernel) (gh_cons (ge_op op_addD (ge_op op_mulD (ge_name 1) (ge_int)) (ge_int)) (gh_nil))) (ge_int)) (ge_int)) (ga_nil))))))) hm
theorem ok__law_roll {f : Addr} {fd : FuncData} (F : Fun K "_law_roll" "_law_roll" s__law_roll f fd) (T : Tg mg)  : FnOk P w K mg base CX0 1 f fd ["cup", "many"] (spIO Z0 (m__law_roll) 2) :=
  fn_io (N := ["cup", "many", "found", "deep"]) (ps := ["cup", "many"]) (body := b__law_roll) F sc__law_roll fun cdv A outer s H E hr => (gss_cons (gs_if (gt_cmp (op_gtD (hu64 hr)) (ge_ix (ix_D (hu64 hr)) (ge_name 0) (ge_int)) (ge_int)) (gss_cons (gs_set 2 sc__law_roll.nd (ge_op op_modD (ge_ty cr_intD rfl T.g_int (by decide +kernel) (gh_cons (ge_ix (ix_D (hu64 hr)) (ge_name 0) (ge_int)) (gh_nil))) (ge_name 1)))
  (gss_cons (gs_put (hu1 hr) 0 (pv 0) (ge_int) (ge_op op_fdivD (ge_ix (ix_D (hu64 hr)) (ge_name 0) (ge_int)) (ge_name 1)))
  (gss_one (gs_ret (ge_name 2))))) (gss_nil))
  (gss_cons (gs_put (hu1 hr) 0 (pv 0) (ge_int) (ge_op op_modD (ge_ty cr_intD rfl T.g_int (by decide +kernel) (gh_cons (ge_op op_addD (ge_op op_mulD (ge_ix (ix_D (hu64 hr)) (ge_name 0) (ge_int)) (ge_int)) (ge_int)) (gh_nil))) (ge_int)))
  (gss_cons (gs_set 3 sc__law_roll.nd (ge_op op_modD (ge_ty cr_intD rfl T.g_int (by decide +kernel) (gh_cons (ge_op op_mulD (ge_ix (ix_D (hu64 hr)) (ge_name 0) (ge_int)) (ge_op op_addD (ge_ix (ix_D (hu64 hr)) (ge_name 0) (ge_int)) (ge_int))) (gh_nil))) (ge_int)))
  (gss_one (gs_ret (ge_op op_modD (ge_ty cr_intD rfl T.g_int (by decide +kernel) (gh_cons (ge_op op_fdivD (ge_name 3) (ge_int)) (gh_nil))) (ge_name 1)))))))
theorem ok__law_some {f : Addr} {fd : FuncData} (F : Fun K "_law_some" "_law_some" s__law_some f fd) (T : Tg mg) (G__law_roll : Prom P w K mg base 1 "_law_roll" ["cup", "many"] (spIO Z0 (m__law_roll) 2)) : FnOk P w K mg base CX0 2 f fd ["cup", "things"] (spIO Z0 (m__law_some) 2) :=
  fn_io (N := ["cup", "things"]) (ps := ["cup", "things"]) (body := b__law_some) F sc__law_some fun cdv A outer s H E hr => (gss_one (gs_ret (ge_ix (ix_D (hu64 hr)) (ge_name 1) (ge_callIOP 0 G__law_roll (hr.mono (by decide)) (pv 0) (ga_cons (ge_bi cr_lenD rfl T.g_len (by decide +kernel) (gh_cons (ge_name 1) (gh_nil))) (ga_nil))))))
theorem ok1__law_same (d : Nat) {f : Addr} {fd : FuncData} (F : Fun K "_law_same" "_law_same" s__law_same f fd) (T : Tg mg)  (G__law_same : Prom P w K mg base (0 + d) "_law_same" ["told", "due"] (spF Z0 (m__law_same d) 2)) : FnOk P w K mg base CX0 (0 + d + 1) f fd ["told", "due"] (spF Z0 (m__law_same (d + 1)) 2) :=
  fn_pure (N := ["told", "due", "at"]) (ps := ["told", "due"]) (body := b__law_same (m__law_same d)) F sc__law_same fun cdv A outer s H E hr => (gss_cons (gs_if (gt_val (ge_isinst kit_tuple T.g_isinstance T.g_tuple (by decide +kernel) (ge_name 1))) (gss_cons (gs_if (gt_w (gw_or (gt_not (gt_val (ge_isinst kit_tuple T.g_isinstance T.g_tuple (by decide +kernel) (ge_name 0)))) (gw_or1 (gt_cmp (op_neD' (hu64 hr)) (ge_bi cr_lenD rfl T.g_len (by decide +kernel) (gh_cons (ge_name 0) (gh_nil))) (ge_bi cr_lenD rfl T.g_len (by decide +kernel) (gh_cons (ge_name 1) (gh_nil))))))) (gss_one (gs_ret (ge_bl))) (gss_nil))
  (gss_one (gs_ret (ge_bi (cr_allD rfl) rfl T.g_all (by decide +kernel) (gh_cons (ge_lc (E' := F0) (own := [("at", 2)]) rfl sc__law_same.nd (gi_range1 rfl T.g_range (ge_bi cr_lenD rfl T.g_len (by decide +kernel) (gh_cons (ge_name 1) (gh_nil)))) (blkOk_by rfl) (by decide) (fun _ _ _ _ _ => gg_name 2 sc__law_same.nd) (fun _ _ _ _ _ => gts_nil) (fun _ _ _ _ _ => ge_callP G__law_same hr (ga_cons (ge_ix (ix_D (hu64 hr)) (ge_name 0) (ge_name 2)) (ga_cons (ge_ix (ix_D (hu64 hr)) (ge_name 1) (ge_name 2)) (ga_nil))))) (gh_nil)))))) (gss_nil))
  (gss_cons (gs_if (gt_cmp op_isD (ge_name 1) (ge_non)) (gss_one (gs_ret (ge_cmp op_isD (ge_name 0) (ge_non)))) (gss_nil))
  (gss_cons (gs_if (gt_val (ge_isinst kit_bool T.g_isinstance T.g_bool (by decide +kernel) (ge_name 1))) (gss_one (gs_ret (ge_if (gt_val (ge_name 1)) (ge_cmp op_isD (ge_name 0) (ge_bl)) (ge_cmp op_isD (ge_name 0) (ge_bl))))) (gss_nil))
  (gss_cons (gs_if (gt_val (ge_isinst kit_int T.g_isinstance T.g_int (by decide +kernel) (ge_name 1))) (gss_one (gs_ret (ge_and (ge_isinst kit_int T.g_isinstance T.g_int (by decide +kernel) (ge_name 0)) (ge_and (ge_not (ge_isinst kit_bool T.g_isinstance T.g_bool (by decide +kernel) (ge_name 0))) (ge_one (ge_cmp (op_eqD' (hu64 hr)) (ge_ty cr_intD rfl T.g_int (by decide +kernel) (gh_cons (ge_name 0) (gh_nil))) (ge_name 1))))))) (gss_nil))
  (gss_one (gs_ret (ge_and (ge_isinst kit_str T.g_isinstance T.g_str (by decide +kernel) (ge_name 0)) (ge_one (ge_cmp (op_eqD' (hu64 hr)) (ge_ty cr_strD rfl T.g_str (by decide +kernel) (gh_cons (ge_name 0) (gh_nil))) (ge_name 1))))))))))
theorem ok__law_same {f : Addr} {fd : FuncData} (F : Fun K "_law_same" "_law_same" s__law_same f fd) (hm : mg "_law_same" = some (.ref f)) (hb : Binds K fd ["told", "due"] []) (T : Tg mg)  : ∀ d : Nat, FnOk P w K mg base CX0 (0 + d) f fd ["told", "due"] (spF Z0 (m__law_same d) 2)
  | 0 => fn_bad (ps := ["told", "due"])
  | d + 1 => ok1__law_same d F T  (Prom.mk' F hm hb (ok__law_same F hm hb T  d))
theorem ok__law_subsets {f : Addr} {fd : FuncData} (F : Fun K "_law_subsets" "_law_subsets" s__law_subsets f fd) (T : Tg mg)  : FnOk P w K mg base CX0 1 f fd ["things"] (spF Z0 (m__law_subsets) 1) :=
  fn_pure (N := ["things", "found", "thing", "one"]) (ps := ["things"]) (body := b__law_subsets) F sc__law_subsets fun cdv A outer s H E hr => (gss_cons (gs_set 1 sc__law_subsets.nd (ge_lst (ga_cons (ge_tup (ga_nil)) (ga_nil))))
  (gss_cons (gs_for PassesOwn.never rfl (gi_seq (ge_name 0)) (gg_name 2 sc__law_subsets.nd) (gss_one (gs_set 1 sc__law_subsets.nd (ge_op op_addD (ge_name 1) (ge_lc (E' := F0) (own := [("one", 3)]) rfl sc__law_subsets.nd (gi_seq (ge_name 1)) (blkOk_by rfl) (by decide) (fun _ _ _ _ _ => gg_name 3 sc__law_subsets.nd) (fun _ _ _ _ _ => gts_nil) (fun _ _ _ _ _ => ge_op op_addD (ge_name 3) (ge_tup (ga_cons (ge_name 2) (ga_nil)))))))))
  (gss_one (gs_ret (ge_name 1)))))
theorem ok__law_file {f : Addr} {fd : FuncData} (F : Fun K "_law_file" "_law_file" s__law_file f fd) (T : Tg mg) (G__law_roll : Prom P w K mg base 1 "_law_roll" ["cup", "many"] (spIO Z0 (m__law_roll) 2)) (G__law_some : Prom P w K mg base 2 "_law_some" ["cup", "things"] (spIO Z0 (m__law_some) 2)) : FnOk P w K mg base CX0 3 f fd ["cup", "most"] (spIO Z0 (m__law_file) 2) :=
  fn_io (N := ["cup", "most", "size", "turn"]) (ps := ["cup", "most"]) (body := b__law_file) F sc__law_file fun cdv A outer s H E hr => (gss_cons (gs_set 2 sc__law_file.nd (ge_callIOP 0 G__law_some (hr.mono (by decide)) (pv 0) (ga_cons (ge_lst (ga_cons (ge_int) (ga_cons (ge_int) (ga_cons (ge_int) (ga_nil))))) (ga_nil))))
  (gss_one (gs_ret (ge_ty cr_tupleD rfl T.g_tuple (by decide +kernel) (gh_cons (ge_lc (E' := F0) (own := [("turn", 3)]) rfl sc__law_file.nd (gi_range1 rfl T.g_range (ge_op op_addD (ge_int) (ge_callIOP 0 G__law_roll (hr.mono (by decide)) (pv 0) (ga_cons (ge_name 1) (ga_nil))))) (blkOk_by rfl) (by decide) (fun _ _ _ _ _ => gg_name 3 sc__law_file.nd) (fun _ _ _ _ _ => gts_nil) (fun _ _ _ _ _ => ge_op op_addD (ge_int) (ge_callIOP 0 G__law_roll (hr.mono (by decide)) (pv 0) (ga_cons (ge_name 2) (ga_nil))))) (gh_nil))))))
theorem ok__law_sees {f : Addr} {fd : FuncData} (F : Fun K "_law_sees" "_law_sees" s__law_sees f fd) (T : Tg mg)  : FnOk P w K mg base CX0 1 f fd ["tops"] (spF Z0 (m__law_sees) 1) :=
  fn_pure (N := ["tops", "found", "high", "at"]) (ps := ["tops"]) (body := b__law_sees) F sc__law_sees fun cdv A outer s H E hr => (gss_cons (gs_asg (ge_tup (ga_cons (ge_tup (ga_nil)) (ga_cons (ge_un un_negD (ge_int)) (ga_nil)))) (gg_tup rfl (ggs_cons (gg_name 1 sc__law_sees.nd) (ggs_cons (gg_name 2 sc__law_sees.nd) (ggs_nil)))))
  (gss_cons (gs_for PassesOwn.never rfl (gi_range1 rfl T.g_range (ge_bi cr_lenD rfl T.g_len (by decide +kernel) (gh_cons (ge_name 0) (gh_nil)))) (gg_name 3 sc__law_sees.nd) (gss_one (gs_if (gt_cmp (op_gtD (hu64 hr)) (ge_ix (ix_D (hu64 hr)) (ge_name 0) (ge_name 3)) (ge_name 2)) (gss_one (gs_par (i := 1) (j := 2) rfl sc__law_sees.nd rfl rfl (by decide) rfl rfl (ge_op op_addD (ge_name 1) (ge_tup (ga_cons (ge_name 3) (ga_nil)))) (ge_ix (ix_D (hu64 hr)) (ge_name 0) (ge_name 3)) rfl)) (gss_nil))))
  (gss_one (gs_ret (ge_name 1)))))
theorem ok__law_stay {f : Addr} {fd : FuncData} (F : Fun K "_law_stay" "_law_stay" s__law_stay f fd) (T : Tg mg) (G__law_sees : Prom P w K mg base 1 "_law_sees" ["tops"] (spF Z0 (m__law_sees) 1)) : FnOk P w K mg base CX0 2 f fd ["file", "some"] (spF Z0 (m__law_stay) 2) :=
  fn_pure (N := ["file", "some", "at"]) (ps := ["file", "some"]) (body := b__law_stay) F sc__law_stay fun cdv A outer s H E hr => (gss_one (gs_ret (ge_cmp (op_eqD' (hu64 hr)) (ge_bi cr_lenD rfl T.g_len (by decide +kernel) (gh_cons (ge_callP G__law_sees (hr.mono (by decide)) (ga_cons (ge_lc (E' := F0) (own := [("at", 2)]) rfl sc__law_stay.nd (gi_seq (ge_name 1)) (blkOk_by rfl) (by decide) (fun _ _ _ _ _ => gg_name 2 sc__law_stay.nd) (fun _ _ _ _ _ => gts_nil) (fun _ _ _ _ _ => ge_ix (ix_D (hu64 hr)) (ge_name 0) (ge_name 2))) (ga_nil))) (gh_nil))) (ge_bi cr_lenD rfl T.g_len (by decide +kernel) (gh_cons (ge_name 1) (gh_nil))))))
theorem ok__law_joined {f : Addr} {fd : FuncData} (F : Fun K "_law_joined" "_law_joined" s__law_joined f fd) (T : Tg mg)  : FnOk P w K mg base CX0 1 f fd ["rows"] (spF Z0 (m__law_joined) 1) :=
  fn_pure (N := ["rows", "found", "row"]) (ps := ["rows"]) (body := b__law_joined) F sc__law_joined fun cdv A outer s H E hr => (gss_cons (gs_set 1 sc__law_joined.nd (ge_lst (ga_nil)))
  (gss_cons (gs_for PassesOwn.never rfl (gi_seq (ge_name 0)) (gg_name 2 sc__law_joined.nd) (gss_one (gs_set 1 sc__law_joined.nd (ge_op op_addD (ge_name 1) (ge_ty cr_listD rfl T.g_list (by decide +kernel) (gh_cons (ge_name 2) (gh_nil)))))))
  (gss_one (gs_ret (ge_name 1)))))
theorem ok__law_is_paper {f : Addr} {fd : FuncData} (F : Fun K "_law_is_paper" "_law_is_paper" s__law_is_paper f fd) (T : Tg mg) (G__law_joined : Prom P w K mg base 1 "_law_joined" ["rows"] (spF Z0 (m__law_joined) 1)) : FnOk P w K mg base CX0 2 f fd ["file", "many", "value"] (spF Z0 (m__law_is_paper) 3) :=
  fn_pure (N := ["file", "many", "value", "row", "one", "other"]) (ps := ["file", "many", "value"]) (body := b__law_is_paper) F sc__law_is_paper fun cdv A outer s H E hr => (gss_cons (gs_if (gt_w (gw_or (gt_cmp (op_gtD (hu64 hr)) (ge_bi cr_lenD rfl T.g_len (by decide +kernel) (gh_cons (ge_name 2) (gh_nil))) (ge_name 1)) (gw_or1 (gt_cmp (op_neD' (hu64 hr)) (ge_bi (cr_sortA rfl (hu64 hr)) rfl T.g_sorted (by decide +kernel) (gh_cons (ge_callP G__law_joined (hr.mono (by decide)) (ga_cons (ge_name 2) (ga_nil))) (gh_nil))) (ge_lstRg rfl T.g_list (grg_1 T.g_range (ge_bi cr_lenD rfl T.g_len (by decide +kernel) (gh_cons (ge_name 0) (gh_nil))))))))) (gss_one (gs_ret (ge_bl))) (gss_nil))
  (gss_cons (gs_for PassesOwn.never rfl (gi_seq (ge_name 2)) (gg_name 3 sc__law_is_paper.nd) (gss_one (gs_if (gt_w (gw_or (gt_cmp (op_neD' (hu64 hr)) (ge_ty cr_listD rfl T.g_list (by decide +kernel) (gh_cons (ge_name 3) (gh_nil))) (ge_sortSet rfl T.g_sorted T.g_set (ge_name 3))) (gw_or1 (gt_cmp (op_neD' (hu64 hr)) (ge_lc (E' := F0) (own := [("one", 4), ("other", 5)]) rfl sc__law_is_paper.nd (gi_zip T.g_zip (ge_name 3) (ge_slice (ge_name 3) (go_some (ge_int)) go_none)) (blkOk_by rfl) (by decide) (fun _ _ _ _ _ => gg_tup rfl (ggs_cons (gg_name 4 sc__law_is_paper.nd) (ggs_cons (gg_name 5 sc__law_is_paper.nd) (ggs_nil)))) (fun _ _ _ _ _ => gts_one (gt_cmp (op_ltD (hu64 hr)) (ge_ix (ix_D (hu64 hr)) (ge_name 0) (ge_name 4)) (ge_ix (ix_D (hu64 hr)) (ge_name 0) (ge_name 5)))) (fun _ _ _ _ _ => ge_int)) (ge_lst (ga_nil)))))) (gss_one (gs_ret (ge_bl))) (gss_nil))))
  (gss_one (gs_ret (ge_bl)))))
theorem ok_law (hm : ∀ x y : Int, okCup x y → ∃ env', b_law (none :: some (.ow true (.lst [.int x, .int y])) :: List.replicate 17 none) = .ok (.rt (.sh (.bool true)) env')) {f : Addr} {fd : FuncData} (F : Fun K "law" "law" s_law f fd) (T : Tg mg) (G__law_cup : Prom P w K mg base 1 "_law_cup" ["script"] (spCup K okCup)) (G__law_file : Prom P w K mg base 3 "_law_file" ["cup", "most"] (spIO Z0 (m__law_file) 2)) (G__law_is_paper : Prom P w K mg base 2 "_law_is_paper" ["file", "many", "value"] (spF Z0 (m__law_is_paper) 3)) (G__law_roll : Prom P w K mg base 1 "_law_roll" ["cup", "many"] (spIO Z0 (m__law_roll) 2)) (G__law_same : Prom P w K mg base 6 "_law_same" ["told", "due"] (spF Z0 (m__law_same 6) 2)) (G__law_some : Prom P w K mg base 2 "_law_some" ["cup", "things"] (spIO Z0 (m__law_some) 2)) (G__law_stay : Prom P w K mg base 2 "_law_stay" ["file", "some"] (spF Z0 (m__law_stay) 2)) (G__law_subsets : Prom P w K mg base 1 "_law_subsets" ["things"] (spF Z0 (m__law_subsets) 1)) (G_are_staying : Prom P w K mg base 4 "are_staying" ["file", "value"] (spF Z0 (m_are_staying) 2)) (G_fewest_moves : Prom P w K mg base 4 "fewest_moves" ["file"] (spF Z0 (m_fewest_moves) 1)) (G_is_rows_paper : Prom P w K mg base 4 "is_rows_paper" ["file", "many", "value"] (spF Z0 (m_is_rows_paper) 3)) (G_rows_paper : Prom P w K mg base 4 "rows_paper" ["file"] (spF Z0 (m_rows_paper) 1)) (G_stays : Prom P w K mg base 4 "stays" ["file"] (spF Z0 (m_stays) 1)) : FnOk P w K mg base CX0 7 f fd ["script"] (spLaw K) :=
  law_fn (N := ["script", "cup", "turn", "file", "many", "every", "good", "most", "some", "told", "at", "values", "value", "size", "odds", "down", "more", "place", "odd"]) (okC := okCup) (body := b_law) (k := 6) F sc_law rfl rfl (by first | exact .inl rfl | exact .inr rfl) rfl (by obtain ⟨f, fd, h1, h2, h3, h4⟩ := G__law_cup.ex; exact ⟨f, fd, h1, h2, h3, h4.mono (by decide)⟩) (fun cdv A outer s H E hr => (gss_cons (gs_for PassesOwn.never rfl (gi_range1 rfl T.g_range (ge_int)) (gg_name 2 sc_law.nd) (gss_cons (gs_set 3 sc_law.nd (ge_callIOP 1 G__law_file (hr.mono (by decide)) (pv 1) (ga_cons (ge_int) (ga_nil))))
  (gss_cons (gs_asg (ge_tup (ga_cons (ge_bi cr_lenD rfl T.g_len (by decide +kernel) (gh_cons (ge_name 3) (gh_nil))) (ga_cons (ge_callP G__law_subsets (hr.mono (by decide)) (ga_cons (ge_lstRg rfl T.g_list (grg_1 T.g_range (ge_bi cr_lenD rfl T.g_len (by decide +kernel) (gh_cons (ge_name 3) (gh_nil))))) (ga_nil))) (ga_nil)))) (gg_tup rfl (ggs_cons (gg_name 4 sc_law.nd) (ggs_cons (gg_name 5 sc_law.nd) (ggs_nil)))))
  (gss_cons (gs_set 6 sc_law.nd (ge_bi (cr_sortA rfl (hu64 hr)) rfl T.g_sorted (by decide +kernel) (gh_cons (ge_lc (E' := F0) (own := [("some", 8)]) rfl sc_law.nd (gi_seq (ge_name 5)) (blkOk_by rfl) (by decide) (fun _ _ _ _ _ => gg_name 8 sc_law.nd) (fun _ _ _ _ _ => gts_one (gt_val (ge_callP G__law_stay (hr.mono (by decide)) (ga_cons (ge_name 3) (ga_cons (ge_name 8) (ga_nil)))))) (fun _ _ _ _ _ => ge_tup (ga_cons (ge_un un_negD (ge_bi cr_lenD rfl T.g_len (by decide +kernel) (gh_cons (ge_name 8) (gh_nil)))) (ga_cons (ge_name 8) (ga_nil))))) (gh_nil))))
  (gss_cons (gs_set 7 sc_law.nd (ge_un un_negD (ge_ix (ix_D (hu64 hr)) (ge_ix (ix_D (hu64 hr)) (ge_name 6) (ge_int)) (ge_int))))
  (gss_cons (gs_if (gt_not (gt_val (ge_callP G__law_same (hr.mono (by decide)) (ga_cons (ge_tup (ga_cons (ge_callP G_stays (hr.mono (by decide)) (ga_cons (ge_name 3) (ga_nil))) (ga_cons (ge_callP G_fewest_moves (hr.mono (by decide)) (ga_cons (ge_name 3) (ga_nil))) (ga_nil)))) (ga_cons (ge_tup (ga_cons (ge_ix (ix_D (hu64 hr)) (ge_ix (ix_D (hu64 hr)) (ge_name 6) (ge_int)) (ge_int)) (ga_cons (ge_if (gt_cmp (op_eqD' (hu64 hr)) (ge_lenSet rfl T.g_len T.g_set (ge_name 3)) (ge_name 4)) (ge_op op_subD (ge_name 4) (ge_name 7)) (ge_non)) (ga_nil)))) (ga_nil)))))) (gss_one (gs_ret (ge_bl))) (gss_nil))
  (gss_cons (gs_for PassesOwn.never rfl (gi_seq (ge_lc (E' := F0) (own := [("more", 16)]) rfl sc_law.nd (gi_range1 rfl T.g_range (ge_int)) (blkOk_by rfl) (by decide) (fun _ _ _ _ _ => gg_name 16 sc_law.nd) (fun _ _ _ _ _ => gts_nil) (fun _ _ _ _ _ => ge_callIOP 1 G__law_some (hr.mono (by decide)) (pv 1) (ga_cons (ge_name 5) (ga_nil))))) (gg_name 8 sc_law.nd) (gss_one (gs_if (gt_not (gt_val (ge_callP G__law_same (hr.mono (by decide)) (ga_cons (ge_callP G_are_staying (hr.mono (by decide)) (ga_cons (ge_name 3) (ga_cons (ge_name 8) (ga_nil)))) (ga_cons (ge_callP G__law_stay (hr.mono (by decide)) (ga_cons (ge_name 3) (ga_cons (ge_name 8) (ga_nil)))) (ga_nil)))))) (gss_one (gs_ret (ge_bl))) (gss_nil))))
  (gss_cons (gs_set 9 sc_law.nd (ge_callP G_rows_paper (hr.mono (by decide)) (ga_cons (ge_name 3) (ga_nil))))
  (gss_cons (gs_if (gt_w (gw_or (gt_not (gt_val (ge_isinst kit_tuple T.g_isinstance T.g_tuple (by decide +kernel) (ge_name 9)))) (gw_or (gt_cmp (op_neD' (hu64 hr)) (ge_bi cr_lenD rfl T.g_len (by decide +kernel) (gh_cons (ge_name 9) (gh_nil))) (ge_name 7)) (gw_or1 (gt_not (gt_val (ge_callP G__law_is_paper (hr.mono (by decide)) (ga_cons (ge_name 3) (ga_cons (ge_name 7) (ga_cons (ge_name 9) (ga_nil))))))))))) (gss_one (gs_ret (ge_bl))) (gss_nil))
  (gss_cons (gs_set 10 sc_law.nd (ge_callIOP 1 G__law_roll (hr.mono (by decide)) (pv 1) (ga_cons (ge_bi cr_lenD rfl T.g_len (by decide +kernel) (gh_cons (ge_name 9) (gh_nil))) (ga_nil))))
  (gss_cons (gs_set 11 sc_law.nd (ge_lst (ga_cons (ge_name 9) (ga_cons (ge_rev (ge_name 9)) (ga_cons (ge_slice (ge_name 9) (go_some (ge_int)) go_none) (ga_cons (ge_op op_addD (ge_name 9) (ge_tup (ga_cons (ge_tup (ga_nil)) (ga_nil)))) (ga_nil)))))))
  (gss_cons (gs_set 11 sc_law.nd (ge_op op_addD (ge_name 11) (ge_lst (ga_cons (ge_op op_addD (ge_op op_addD (ge_slice (ge_name 9) go_none (go_some (ge_name 10))) (ge_tup (ga_cons (ge_slice (ge_ix (ix_D (hu64 hr)) (ge_name 9) (ge_name 10)) (go_some (ge_int)) go_none) (ga_nil)))) (ge_slice (ge_name 9) (go_some (ge_op op_addD (ge_name 10) (ge_int))) go_none)) (ga_cons (ge_op op_addD (ge_op op_addD (ge_slice (ge_name 9) go_none (go_some (ge_name 10))) (ge_tup (ga_cons (ge_op op_addD (ge_ix (ix_D (hu64 hr)) (ge_name 9) (ge_name 10)) (ge_slice (ge_ix (ix_D (hu64 hr)) (ge_name 9) (ge_name 10)) (go_some (ge_un un_negD (ge_int))) go_none)) (ga_nil)))) (ge_slice (ge_name 9) (go_some (ge_op op_addD (ge_name 10) (ge_int))) go_none)) (ga_cons (ge_ty cr_tupleD rfl T.g_tuple (by decide +kernel) (gh_cons (ge_lc (E' := F0) (own := [("place", 17)]) rfl sc_law.nd (gi_range1 rfl T.g_range (ge_name 4)) (blkOk_by rfl) (by decide) (fun _ _ _ _ _ => gg_name 17 sc_law.nd) (fun _ _ _ _ _ => gts_nil) (fun _ _ _ _ _ => ge_tup (ga_cons (ge_name 17) (ga_nil)))) (gh_nil))) (ga_cons (ge_tup (ga_cons (ge_tupRg rfl T.g_tuple (grg_1 T.g_range (ge_name 4))) (ga_nil))) (ga_nil))))))))
  (gss_cons (gs_if (gt_cmp (op_gtD (hu64 hr)) (ge_name 7) (ge_int)) (gss_one (gs_app 11 (pv 11) (ge_op op_addD (ge_tup (ga_cons (ge_ty cr_tupleD rfl T.g_tuple (by decide +kernel) (gh_cons (ge_bi (cr_sortAT rfl (hu64 hr)) rfl T.g_sorted (by decide +kernel) (gh_cons (ge_op op_addD (ge_ix (ix_D (hu64 hr)) (ge_name 9) (ge_int)) (ge_ix (ix_D (hu64 hr)) (ge_name 9) (ge_int))) (gh_nil))) (gh_nil))) (ga_nil))) (ge_slice (ge_name 9) (go_some (ge_int)) go_none)))) (gss_nil))
  (gss_cons (gs_for PassesOwn.never rfl (gi_seq (ge_name 11)) (gg_name 12 sc_law.nd) (gss_one (gs_for PassesOwn.never rfl (gi_seq (ge_tup (ga_cons (ge_name 7) (ga_cons (ge_op op_subD (ge_name 7) (ge_int)) (ga_cons (ge_op op_addD (ge_name 7) (ge_int)) (ga_cons (ge_name 4) (ga_nil))))))) (gg_name 13 sc_law.nd) (gss_one (gs_if (gt_not (gt_val (ge_callP G__law_same (hr.mono (by decide)) (ga_cons (ge_callP G_is_rows_paper (hr.mono (by decide)) (ga_cons (ge_name 3) (ga_cons (ge_name 13) (ga_cons (ge_name 12) (ga_nil))))) (ga_cons (ge_callP G__law_is_paper (hr.mono (by decide)) (ga_cons (ge_name 3) (ga_cons (ge_name 13) (ga_cons (ge_name 12) (ga_nil))))) (ga_nil)))))) (gss_one (gs_ret (ge_bl))) (gss_nil))))))
  (gss_cons (gs_set 14 sc_law.nd (ge_lst (ga_cons (ge_non) (ga_cons (ge_ty cr_listD rfl T.g_list (by decide +kernel) (gh_cons (ge_name 9) (gh_nil))) (ga_cons (ge_op op_addD (ge_slice (ge_name 9) go_none (go_some (ge_un un_negD (ge_int)))) (ge_tup (ga_cons (ge_non) (ga_nil)))) (ga_cons (ge_op op_addD (ge_slice (ge_name 9) go_none (go_some (ge_un un_negD (ge_int)))) (ge_tup (ga_cons (ge_ty cr_listD rfl T.g_list (by decide +kernel) (gh_cons (ge_ix (ix_D (hu64 hr)) (ge_name 9) (ge_un un_negD (ge_int))) (gh_nil))) (ga_nil)))) (ga_cons (ge_op op_addD (ge_slice (ge_name 9) go_none (go_some (ge_un un_negD (ge_int)))) (ge_tup (ga_cons (ge_tup (ga_cons (ge_name 4) (ga_nil))) (ga_nil)))) (ga_cons (ge_op op_addD (ge_slice (ge_name 9) go_none (go_some (ge_un un_negD (ge_int)))) (ge_tup (ga_cons (ge_tup (ga_cons (ge_un un_negD (ge_int)) (ga_nil))) (ga_nil)))) (ga_cons (ge_op op_addD (ge_slice (ge_name 9) go_none (go_some (ge_un un_negD (ge_int)))) (ge_tup (ga_cons (ge_tup (ga_cons (ge_bl) (ga_nil))) (ga_nil)))) (ga_cons (ge_op op_addD (ge_slice (ge_name 9) go_none (go_some (ge_un un_negD (ge_int)))) (ge_tup (ga_cons (ge_int) (ga_nil)))) (ga_cons (ge_int) (ga_nil))))))))))))
  (gss_cons (gs_if (gt_cmp (op_neD' (hu64 hr)) (ge_lc (E' := F0) (own := [("odd", 18)]) rfl sc_law.nd (gi_seq (ge_name 14)) (blkOk_by rfl) (by decide) (fun _ _ _ _ _ => gg_name 18 sc_law.nd) (fun _ _ _ _ _ => gts_one (gt_cmp op_isNotD (ge_callP G_is_rows_paper (hr.mono (by decide)) (ga_cons (ge_name 3) (ga_cons (ge_int) (ga_cons (ge_name 18) (ga_nil))))) (ge_bl))) (fun _ _ _ _ _ => ge_name 18)) (ge_lst (ga_nil))) (gss_one (gs_ret (ge_bl))) (gss_nil))
  (gss_cons (gs_set 14 sc_law.nd (ge_op op_addD (ge_lst (ga_cons (ge_non) (ga_cons (ge_lst (ga_cons (ge_int) (ga_nil))) (ga_cons (ge_tup (ga_cons (ge_int) (ga_cons (ge_int) (ga_nil)))) (ga_cons (ge_tup (ga_cons (ge_name 4) (ga_nil))) (ga_cons (ge_tup (ga_cons (ge_un un_negD (ge_int)) (ga_nil))) (ga_cons (ge_tup (ga_cons (ge_bl) (ga_nil))) (ga_cons (ge_tup (ga_cons (ge_str) (ga_nil))) (ga_cons (ge_int) (ga_nil)))))))))) (ge_if (gt_cmp (op_gtD (hu64 hr)) (ge_name 4) (ge_int)) (ge_lst (ga_cons (ge_tup (ga_cons (ge_int) (ga_cons (ge_int) (ga_nil)))) (ga_nil))) (ge_lst (ga_nil)))))
  (gss_one (gs_if (gt_cmp (op_neD' (hu64 hr)) (ge_lc (E' := F0) (own := [("odd", 18)]) rfl sc_law.nd (gi_seq (ge_name 14)) (blkOk_by rfl) (by decide) (fun _ _ _ _ _ => gg_name 18 sc_law.nd) (fun _ _ _ _ _ => gts_one (gt_cmp op_isNotD (ge_callP G_are_staying (hr.mono (by decide)) (ga_cons (ge_name 3) (ga_cons (ge_name 18) (ga_nil)))) (ge_bl))) (fun _ _ _ _ _ => ge_name 18)) (ge_lst (ga_nil))) (gss_one (gs_ret (ge_bl))) (gss_nil))))))))))))))))))))
  (gss_cons (gs_set 4 sc_law.nd (ge_op op_addD (ge_int) (ge_callIOP 1 G__law_roll (hr.mono (by decide)) (pv 1) (ga_cons (ge_int) (ga_nil)))))
  (gss_cons (gs_set 15 sc_law.nd (ge_tupDown rfl T.g_tuple T.g_range (ga_cons (ge_op op_addD (ge_name 4) (ge_int)) (ga_cons (ge_int) (ga_cons (ge_un un_negD (ge_int)) (ga_nil))))))
  (gss_cons (gs_set 9 sc_law.nd (ge_tup (ga_cons (ge_callP G_stays (hr.mono (by decide)) (ga_cons (ge_name 15) (ga_nil))) (ga_cons (ge_callP G_rows_paper (hr.mono (by decide)) (ga_cons (ge_name 15) (ga_nil))) (ga_cons (ge_callP G_stays (hr.mono (by decide)) (ga_cons (ge_rev (ge_name 15)) (ga_nil))) (ga_cons (ge_bi cr_lenD rfl T.g_len (by decide +kernel) (gh_cons (ge_callP G_rows_paper (hr.mono (by decide)) (ga_cons (ge_rev (ge_name 15)) (ga_nil))) (gh_nil))) (ga_cons (ge_callP G_fewest_moves (hr.mono (by decide)) (ga_cons (ge_name 15) (ga_nil))) (ga_cons (ge_callP G_fewest_moves (hr.mono (by decide)) (ga_cons (ge_rev (ge_name 15)) (ga_nil))) (ga_nil)))))))))
  (gss_one (gs_ret (ge_callP G__law_same (hr.mono (by decide)) (ga_cons (ge_name 9) (ga_cons (ge_tup (ga_cons (ge_tup (ga_cons (ge_int) (ga_nil))) (ga_cons (ge_tup (ga_cons (ge_tupRg rfl T.g_tuple (grg_1 T.g_range (ge_name 4))) (ga_nil))) (ga_cons (ge_tupRg rfl T.g_tuple (grg_1 T.g_range (ge_name 4))) (ga_cons (ge_name 4) (ga_cons (ge_op op_subD (ge_name 4) (ge_int)) (ga_cons (ge_int) (ga_nil)))))))) (ga_nil))))))))))) hm
end
theorem all_mk [tabI : PI.Tables] {f0 f1 f2 f3 f4 f5 f6 f7 f8 f9 f10 f11 f12 f13 f14 f15 f16 f17 f18 f19 f20 f21 f22 f23 f24 f25 f26 c_subsets_of P_subsets_of : Addr} {od0 an0 od1 an1 od2 an2 od3 an3 od4 an4 od5 an5 od6 an6 od7 an7 od8 an8 od9 an9 od10 an10 od11 an11 od12 an12 od13 an13 od14 an14 od15 an15 od16 an16 od17 an17 od18 an18 od19 an19 od20 an20 od21 an21 od22 an22 od23 an23 od24 an24 od25 an25 od26 an26 : Option Addr} {sl0 sl1 sl2 sl3 sl4 sl5 sl6 sl7 sl8 sl9 sl10 sl11 sl12 sl13 sl14 sl15 sl16 sl17 sl18 sl19 sl20 sl21 sl22 sl23 sl24 sl25 sl26 : Array (Option Value)} {oc0 kV0 dc0 pm0 cd0 ct0 oc1 kV1 dc1 pm1 cd1 ct1 oc2 kV2 dc2 pm2 cd2 ct2 oc3 kV3 dc3 pm3 cd3 ct3 oc4 kV4 dc4 pm4  ct4 oc5 kV5 dc5 pm5 cd5 ct5 oc6 kV6 dc6 pm6 cd6 ct6 oc7 kV7 dc7 pm7 cd7 ct7 oc8 kV8 dc8 pm8 cd8 ct8 oc9 kV9 dc9 pm9 cd9 ct9 oc10 kV10 dc10 pm10 cd10 ct10 oc11 kV11 dc11 pm11 cd11 ct11 oc12 kV12 dc12 pm12 cd12 ct12 oc13 kV13 dc13 pm13 cd13 ct13 oc14 kV14 dc14 pm14 cd14 ct14 oc15 kV15 dc15 pm15 cd15 ct15 oc16 kV16 dc16 pm16 cd16 ct16 oc17 kV17 dc17 pm17 cd17 ct17 oc18 kV18 dc18 pm18 cd18 ct18 oc19 kV19 dc19 pm19 cd19 ct19 oc20 kV20 dc20 pm20 cd20 ct20 oc21 kV21 dc21 pm21 cd21 ct21 oc22 kV22 dc22 pm22 cd22 ct22 oc23 kV23 dc23 pm23 cd23 ct23 oc24 kV24 dc24 pm24 cd24 ct24 oc25 kV25 dc25 pm25 cd25 ct25 oc26 kV26 dc26 pm26 cd26 ct26 : Value} (hcup : ∀ c : Int, 0 ≤ c → ∃ x y env', okCup x y ∧ b__law_cup [none, some (.sh (.int c))] = .ok (.rt (.fr (.lst [.int x, .int y])) env')) (hlaw : ∀ x y : Int, okCup x y → ∃ env', b_law (none :: some (.ow true (.lst [.int x, .int y])) :: List.replicate 17 none) = .ok (.rt (.sh (.bool true)) env')) {l : PySem.W.OpenLaw} {w : World} {K : PySem.W.Frag} {h : Heap} {mg : Str → Option Value} {fa : Addr} (X : K.In h) (G : h.Ns mainGlobals mg) (hfa : mg "law" = some (.ref fa)) (hTab : PI.Tables.T = [(P_subsets_of, q_subsets_of)]) 
    (a0 : PySem.W.nsIn K mainGlobals "is_whole" = some (some (.ref f0))) (l0 : K.lookup f0 = some ⟨oc0, od0, .func (PySem.W.fnOf "is_whole" "is_whole" (defArgs s_is_whole) (defBody s_is_whole) (defScope s_is_whole) .none kV0 dc0 pm0 an0 cd0 ct0), sl0⟩) (c0 : PySem.W.codeIn K cd0 "is_whole" = true) (k0 : PySem.W.keepIn K (.ref f0) = true)
    (a1 : PySem.W.nsIn K mainGlobals "is_tuple_of" = some (some (.ref f1))) (l1 : K.lookup f1 = some ⟨oc1, od1, .func (PySem.W.fnOf "is_tuple_of" "is_tuple_of" (defArgs s_is_tuple_of) (defBody s_is_tuple_of) (defScope s_is_tuple_of) .none kV1 dc1 pm1 an1 cd1 ct1), sl1⟩) (c1 : PySem.W.codeIn K cd1 "is_tuple_of" = true) (k1 : PySem.W.keepIn K (.ref f1) = true)
    (a2 : PySem.W.nsIn K mainGlobals "is_rising" = some (some (.ref f2))) (l2 : K.lookup f2 = some ⟨oc2, od2, .func (PySem.W.fnOf "is_rising" "is_rising" (defArgs s_is_rising) (defBody s_is_rising) (defScope s_is_rising) .none kV2 dc2 pm2 an2 cd2 ct2), sl2⟩) (c2 : PySem.W.codeIn K cd2 "is_rising" = true) (k2 : PySem.W.keepIn K (.ref f2) = true)
    (a3 : PySem.W.nsIn K mainGlobals "fits_some" = some (some (.ref f3))) (l3 : K.lookup f3 = some ⟨oc3, od3, .func (PySem.W.fnOf "fits_some" "fits_some" (defArgs s_fits_some) (defBody s_fits_some) (defScope s_fits_some) .none kV3 dc3 pm3 an3 cd3 ct3), sl3⟩) (c3 : PySem.W.codeIn K cd3 "fits_some" = true) (k3 : PySem.W.keepIn K (.ref f3) = true)
    (a4 : PySem.W.nsIn K mainGlobals "subsets_of" = some (some (.ref f4))) (l4 : K.lookup f4 = some ⟨oc4, od4, .func (PySem.W.fnOf "subsets_of" "subsets_of" (defArgs s_subsets_of) (defBody s_subsets_of) (defScope s_subsets_of) .none kV4 dc4 pm4 an4 (.ref c_subsets_of) ct4), sl4⟩) (c4 : PySem.W.codeIn K (.ref c_subsets_of) "subsets_of" = true) (k4 : PySem.W.keepIn K (.ref f4) = true)
    (a5 : PySem.W.nsIn K mainGlobals "fits_file" = some (some (.ref f5))) (l5 : K.lookup f5 = some ⟨oc5, od5, .func (PySem.W.fnOf "fits_file" "fits_file" (defArgs s_fits_file) (defBody s_fits_file) (defScope s_fits_file) .none kV5 dc5 pm5 an5 cd5 ct5), sl5⟩) (c5 : PySem.W.codeIn K cd5 "fits_file" = true) (k5 : PySem.W.keepIn K (.ref f5) = true)
    (a6 : PySem.W.nsIn K mainGlobals "need_file" = some (some (.ref f6))) (l6 : K.lookup f6 = some ⟨oc6, od6, .func (PySem.W.fnOf "need_file" "need_file" (defArgs s_need_file) (defBody s_need_file) (defScope s_need_file) .none kV6 dc6 pm6 an6 cd6 ct6), sl6⟩) (c6 : PySem.W.codeIn K cd6 "need_file" = true) (k6 : PySem.W.keepIn K (.ref f6) = true)
    (a7 : PySem.W.nsIn K mainGlobals "rising_in" = some (some (.ref f7))) (l7 : K.lookup f7 = some ⟨oc7, od7, .func (PySem.W.fnOf "rising_in" "rising_in" (defArgs s_rising_in) (defBody s_rising_in) (defScope s_rising_in) .none kV7 dc7 pm7 an7 cd7 ct7), sl7⟩) (c7 : PySem.W.codeIn K cd7 "rising_in" = true) (k7 : PySem.W.keepIn K (.ref f7) = true)
    (a8 : PySem.W.nsIn K mainGlobals "falling_in" = some (some (.ref f8))) (l8 : K.lookup f8 = some ⟨oc8, od8, .func (PySem.W.fnOf "falling_in" "falling_in" (defArgs s_falling_in) (defBody s_falling_in) (defScope s_falling_in) .none kV8 dc8 pm8 an8 cd8 ct8), sl8⟩) (c8 : PySem.W.codeIn K cd8 "falling_in" = true) (k8 : PySem.W.keepIn K (.ref f8) = true)
    (a9 : PySem.W.nsIn K mainGlobals "longest_in" = some (some (.ref f9))) (l9 : K.lookup f9 = some ⟨oc9, od9, .func (PySem.W.fnOf "longest_in" "longest_in" (defArgs s_longest_in) (defBody s_longest_in) (defScope s_longest_in) .none kV9 dc9 pm9 an9 cd9 ct9), sl9⟩) (c9 : PySem.W.codeIn K cd9 "longest_in" = true) (k9 : PySem.W.keepIn K (.ref f9) = true)
    (a10 : PySem.W.nsIn K mainGlobals "who_stays" = some (some (.ref f10))) (l10 : K.lookup f10 = some ⟨oc10, od10, .func (PySem.W.fnOf "who_stays" "who_stays" (defArgs s_who_stays) (defBody s_who_stays) (defScope s_who_stays) .none kV10 dc10 pm10 an10 cd10 ct10), sl10⟩) (c10 : PySem.W.codeIn K cd10 "who_stays" = true) (k10 : PySem.W.keepIn K (.ref f10) = true)
    (a11 : PySem.W.nsIn K mainGlobals "stays" = some (some (.ref f11))) (l11 : K.lookup f11 = some ⟨oc11, od11, .func (PySem.W.fnOf "stays" "stays" (defArgs s_stays) (defBody s_stays) (defScope s_stays) .none kV11 dc11 pm11 an11 cd11 ct11), sl11⟩) (c11 : PySem.W.codeIn K cd11 "stays" = true) (k11 : PySem.W.keepIn K (.ref f11) = true)
    (a12 : PySem.W.nsIn K mainGlobals "are_staying" = some (some (.ref f12))) (l12 : K.lookup f12 = some ⟨oc12, od12, .func (PySem.W.fnOf "are_staying" "are_staying" (defArgs s_are_staying) (defBody s_are_staying) (defScope s_are_staying) .none kV12 dc12 pm12 an12 cd12 ct12), sl12⟩) (c12 : PySem.W.codeIn K cd12 "are_staying" = true) (k12 : PySem.W.keepIn K (.ref f12) = true)
    (a13 : PySem.W.nsIn K mainGlobals "rows_paper" = some (some (.ref f13))) (l13 : K.lookup f13 = some ⟨oc13, od13, .func (PySem.W.fnOf "rows_paper" "rows_paper" (defArgs s_rows_paper) (defBody s_rows_paper) (defScope s_rows_paper) .none kV13 dc13 pm13 an13 cd13 ct13), sl13⟩) (c13 : PySem.W.codeIn K cd13 "rows_paper" = true) (k13 : PySem.W.keepIn K (.ref f13) = true)
    (a14 : PySem.W.nsIn K mainGlobals "is_rows_paper" = some (some (.ref f14))) (l14 : K.lookup f14 = some ⟨oc14, od14, .func (PySem.W.fnOf "is_rows_paper" "is_rows_paper" (defArgs s_is_rows_paper) (defBody s_is_rows_paper) (defScope s_is_rows_paper) .none kV14 dc14 pm14 an14 cd14 ct14), sl14⟩) (c14 : PySem.W.codeIn K cd14 "is_rows_paper" = true) (k14 : PySem.W.keepIn K (.ref f14) = true)
    (a15 : PySem.W.nsIn K mainGlobals "fewest_moves" = some (some (.ref f15))) (l15 : K.lookup f15 = some ⟨oc15, od15, .func (PySem.W.fnOf "fewest_moves" "fewest_moves" (defArgs s_fewest_moves) (defBody s_fewest_moves) (defScope s_fewest_moves) .none kV15 dc15 pm15 an15 cd15 ct15), sl15⟩) (c15 : PySem.W.codeIn K cd15 "fewest_moves" = true) (k15 : PySem.W.keepIn K (.ref f15) = true)
    (a16 : PySem.W.nsIn K mainGlobals "_law_cup" = some (some (.ref f16))) (l16 : K.lookup f16 = some ⟨oc16, od16, .func (PySem.W.fnOf "_law_cup" "_law_cup" (defArgs s__law_cup) (defBody s__law_cup) (defScope s__law_cup) .none kV16 dc16 pm16 an16 cd16 ct16), sl16⟩) (c16 : PySem.W.codeIn K cd16 "_law_cup" = true) (k16 : PySem.W.keepIn K (.ref f16) = true)
    (a17 : PySem.W.nsIn K mainGlobals "_law_roll" = some (some (.ref f17))) (l17 : K.lookup f17 = some ⟨oc17, od17, .func (PySem.W.fnOf "_law_roll" "_law_roll" (defArgs s__law_roll) (defBody s__law_roll) (defScope s__law_roll) .none kV17 dc17 pm17 an17 cd17 ct17), sl17⟩) (c17 : PySem.W.codeIn K cd17 "_law_roll" = true) (k17 : PySem.W.keepIn K (.ref f17) = true)
    (a18 : PySem.W.nsIn K mainGlobals "_law_some" = some (some (.ref f18))) (l18 : K.lookup f18 = some ⟨oc18, od18, .func (PySem.W.fnOf "_law_some" "_law_some" (defArgs s__law_some) (defBody s__law_some) (defScope s__law_some) .none kV18 dc18 pm18 an18 cd18 ct18), sl18⟩) (c18 : PySem.W.codeIn K cd18 "_law_some" = true) (k18 : PySem.W.keepIn K (.ref f18) = true)
    (a19 : PySem.W.nsIn K mainGlobals "_law_same" = some (some (.ref f19))) (l19 : K.lookup f19 = some ⟨oc19, od19, .func (PySem.W.fnOf "_law_same" "_law_same" (defArgs s__law_same) (defBody s__law_same) (defScope s__law_same) .none kV19 dc19 pm19 an19 cd19 ct19), sl19⟩) (c19 : PySem.W.codeIn K cd19 "_law_same" = true) (k19 : PySem.W.keepIn K (.ref f19) = true)
    (a20 : PySem.W.nsIn K mainGlobals "_law_subsets" = some (some (.ref f20))) (l20 : K.lookup f20 = some ⟨oc20, od20, .func (PySem.W.fnOf "_law_subsets" "_law_subsets" (defArgs s__law_subsets) (defBody s__law_subsets) (defScope s__law_subsets) .none kV20 dc20 pm20 an20 cd20 ct20), sl20⟩) (c20 : PySem.W.codeIn K cd20 "_law_subsets" = true) (k20 : PySem.W.keepIn K (.ref f20) = true)
    (a21 : PySem.W.nsIn K mainGlobals "_law_file" = some (some (.ref f21))) (l21 : K.lookup f21 = some ⟨oc21, od21, .func (PySem.W.fnOf "_law_file" "_law_file" (defArgs s__law_file) (defBody s__law_file) (defScope s__law_file) .none kV21 dc21 pm21 an21 cd21 ct21), sl21⟩) (c21 : PySem.W.codeIn K cd21 "_law_file" = true) (k21 : PySem.W.keepIn K (.ref f21) = true)
    (a22 : PySem.W.nsIn K mainGlobals "_law_sees" = some (some (.ref f22))) (l22 : K.lookup f22 = some ⟨oc22, od22, .func (PySem.W.fnOf "_law_sees" "_law_sees" (defArgs s__law_sees) (defBody s__law_sees) (defScope s__law_sees) .none kV22 dc22 pm22 an22 cd22 ct22), sl22⟩) (c22 : PySem.W.codeIn K cd22 "_law_sees" = true) (k22 : PySem.W.keepIn K (.ref f22) = true)
    (a23 : PySem.W.nsIn K mainGlobals "_law_stay" = some (some (.ref f23))) (l23 : K.lookup f23 = some ⟨oc23, od23, .func (PySem.W.fnOf "_law_stay" "_law_stay" (defArgs s__law_stay) (defBody s__law_stay) (defScope s__law_stay) .none kV23 dc23 pm23 an23 cd23 ct23), sl23⟩) (c23 : PySem.W.codeIn K cd23 "_law_stay" = true) (k23 : PySem.W.keepIn K (.ref f23) = true)
    (a24 : PySem.W.nsIn K mainGlobals "_law_joined" = some (some (.ref f24))) (l24 : K.lookup f24 = some ⟨oc24, od24, .func (PySem.W.fnOf "_law_joined" "_law_joined" (defArgs s__law_joined) (defBody s__law_joined) (defScope s__law_joined) .none kV24 dc24 pm24 an24 cd24 ct24), sl24⟩) (c24 : PySem.W.codeIn K cd24 "_law_joined" = true) (k24 : PySem.W.keepIn K (.ref f24) = true)
    (a25 : PySem.W.nsIn K mainGlobals "_law_is_paper" = some (some (.ref f25))) (l25 : K.lookup f25 = some ⟨oc25, od25, .func (PySem.W.fnOf "_law_is_paper" "_law_is_paper" (defArgs s__law_is_paper) (defBody s__law_is_paper) (defScope s__law_is_paper) .none kV25 dc25 pm25 an25 cd25 ct25), sl25⟩) (c25 : PySem.W.codeIn K cd25 "_law_is_paper" = true) (k25 : PySem.W.keepIn K (.ref f25) = true)
    (a26 : PySem.W.nsIn K mainGlobals "law" = some (some (.ref f26))) (l26 : K.lookup f26 = some ⟨oc26, od26, .func (PySem.W.fnOf "law" "law" (defArgs s_law) (defBody s_law) (defScope s_law) .none kV26 dc26 pm26 an26 cd26 ct26), sl26⟩) (c26 : PySem.W.codeIn K cd26 "law" = true) (k26 : PySem.W.keepIn K (.ref f26) = true)
    (z_abs : PySem.W.nsIn K mainGlobals "abs" = some none)
    (z_all : PySem.W.nsIn K mainGlobals "all" = some none)
    (z_bool : PySem.W.nsIn K mainGlobals "bool" = some none)
    (z_enumerate : PySem.W.nsIn K mainGlobals "enumerate" = some none)
    (z_int : PySem.W.nsIn K mainGlobals "int" = some none)
    (z_isinstance : PySem.W.nsIn K mainGlobals "isinstance" = some none)
    (z_len : PySem.W.nsIn K mainGlobals "len" = some none)
    (z_list : PySem.W.nsIn K mainGlobals "list" = some none)
    (z_max : PySem.W.nsIn K mainGlobals "max" = some none)
    (z_range : PySem.W.nsIn K mainGlobals "range" = some none)
    (z_set : PySem.W.nsIn K mainGlobals "set" = some none)
    (z_sorted : PySem.W.nsIn K mainGlobals "sorted" = some none)
    (z_str : PySem.W.nsIn K mainGlobals "str" = some none)
    (z_tuple : PySem.W.nsIn K mainGlobals "tuple" = some none)
    (z_zip : PySem.W.nsIn K mainGlobals "zip" = some none)
    {t_HEIGHT : Tok} (q_HEIGHT : PySem.W.nsIn K mainGlobals "HEIGHT" = some (some (.int (30) t_HEIGHT)))
    {t_PEOPLE : Tok} (q_PEOPLE : PySem.W.nsIn K mainGlobals "PEOPLE" = some (some (.int (10) t_PEOPLE))) :
    ∃ fd : FuncData, (∀ (s : Shared) (v : Value), BindsTo s fd ⟨[v], []⟩ [("script", v)]) ∧ ∀ base : Heap, K.In base → base.Ns mainGlobals mg → (∀ p ∈ ([(c_subsets_of, P_subsets_of, q_subsets_of)] : List (Addr × Addr × Str)), LamX.TabB base mg p.1 p.2.1) → FnOk l.prog w K mg base CX0 7 fa fd ["script"] (spLaw K) := by
  have e := hfa.symm.trans (PySem.W.mg_of X G a26)
  cases e
  have T : Tg mg := ⟨PySem.W.mg_none_of X G z_abs, PySem.W.mg_none_of X G z_all, PySem.W.mg_none_of X G z_bool, PySem.W.mg_none_of X G z_enumerate, PySem.W.mg_none_of X G z_int, PySem.W.mg_none_of X G z_isinstance, PySem.W.mg_none_of X G z_len, PySem.W.mg_none_of X G z_list, PySem.W.mg_none_of X G z_max, PySem.W.mg_none_of X G z_range, PySem.W.mg_none_of X G z_set, PySem.W.mg_none_of X G z_sorted, PySem.W.mg_none_of X G z_str, PySem.W.mg_none_of X G z_tuple, PySem.W.mg_none_of X G z_zip, ⟨_, PySem.W.mg_of X G q_HEIGHT⟩, ⟨_, PySem.W.mg_of X G q_PEOPLE⟩⟩
  have F0 := fun_mk (st := s_is_whole) l0 c0 k0
  have b0 := F0.binds (ps := ["value", "low", "high"]) fun _ _ _ _ _ _ us hl => match us, hl with | [_, _, _], _ => rfl
  have F1 := fun_mk (st := s_is_tuple_of) l1 c1 k1
  have b1 := F1.binds (ps := ["value", "low", "high"]) fun _ _ _ _ _ _ us hl => match us, hl with | [_, _, _], _ => rfl
  have F2 := fun_mk (st := s_is_rising) l2 c2 k2
  have b2 := F2.binds (ps := ["value"]) fun _ _ _ _ _ _ us hl => match us, hl with | [_], _ => rfl
  have F3 := fun_mk (st := s_fits_some) l3 c3 k3
  have b3 := F3.binds (ps := ["many", "value"]) fun _ _ _ _ _ _ us hl => match us, hl with | [_, _], _ => rfl
  have F4 := fun_mk (st := s_subsets_of) l4 c4 k4
  have b4 := F4.binds (ps := ["many"]) fun _ _ _ _ _ _ us hl => match us, hl with | [_], _ => rfl
  have F5 := fun_mk (st := s_fits_file) l5 c5 k5
  have b5 := F5.binds (ps := ["value"]) fun _ _ _ _ _ _ us hl => match us, hl with | [_], _ => rfl
  have F6 := fun_mk (st := s_need_file) l6 c6 k6
  have b6 := F6.binds (ps := ["file"]) fun _ _ _ _ _ _ us hl => match us, hl with | [_], _ => rfl
  have F7 := fun_mk (st := s_rising_in) l7 c7 k7
  have b7 := F7.binds (ps := ["file", "some"]) fun _ _ _ _ _ _ us hl => match us, hl with | [_, _], _ => rfl
  have F8 := fun_mk (st := s_falling_in) l8 c8 k8
  have b8 := F8.binds (ps := ["file", "some"]) fun _ _ _ _ _ _ us hl => match us, hl with | [_, _], _ => rfl
  have F9 := fun_mk (st := s_longest_in) l9 c9 k9
  have b9 := F9.binds (ps := ["file"]) fun _ _ _ _ _ _ us hl => match us, hl with | [_], _ => rfl
  have F10 := fun_mk (st := s_who_stays) l10 c10 k10
  have b10 := F10.binds (ps := ["file"]) fun _ _ _ _ _ _ us hl => match us, hl with | [_], _ => rfl
  have F11 := fun_mk (st := s_stays) l11 c11 k11
  have b11 := F11.binds (ps := ["file"]) fun _ _ _ _ _ _ us hl => match us, hl with | [_], _ => rfl
  have F12 := fun_mk (st := s_are_staying) l12 c12 k12
  have b12 := F12.binds (ps := ["file", "value"]) fun _ _ _ _ _ _ us hl => match us, hl with | [_, _], _ => rfl
  have F13 := fun_mk (st := s_rows_paper) l13 c13 k13
  have b13 := F13.binds (ps := ["file"]) fun _ _ _ _ _ _ us hl => match us, hl with | [_], _ => rfl
  have F14 := fun_mk (st := s_is_rows_paper) l14 c14 k14
  have b14 := F14.binds (ps := ["file", "many", "value"]) fun _ _ _ _ _ _ us hl => match us, hl with | [_, _, _], _ => rfl
  have F15 := fun_mk (st := s_fewest_moves) l15 c15 k15
  have b15 := F15.binds (ps := ["file"]) fun _ _ _ _ _ _ us hl => match us, hl with | [_], _ => rfl
  have F16 := fun_mk (st := s__law_cup) l16 c16 k16
  have b16 := F16.binds (ps := ["script"]) fun _ _ _ _ _ _ us hl => match us, hl with | [_], _ => rfl
  have F17 := fun_mk (st := s__law_roll) l17 c17 k17
  have b17 := F17.binds (ps := ["cup", "many"]) fun _ _ _ _ _ _ us hl => match us, hl with | [_, _], _ => rfl
  have F18 := fun_mk (st := s__law_some) l18 c18 k18
  have b18 := F18.binds (ps := ["cup", "things"]) fun _ _ _ _ _ _ us hl => match us, hl with | [_, _], _ => rfl
  have F19 := fun_mk (st := s__law_same) l19 c19 k19
  have b19 := F19.binds (ps := ["told", "due"]) fun _ _ _ _ _ _ us hl => match us, hl with | [_, _], _ => rfl
  have F20 := fun_mk (st := s__law_subsets) l20 c20 k20
  have b20 := F20.binds (ps := ["things"]) fun _ _ _ _ _ _ us hl => match us, hl with | [_], _ => rfl
  have F21 := fun_mk (st := s__law_file) l21 c21 k21
  have b21 := F21.binds (ps := ["cup", "most"]) fun _ _ _ _ _ _ us hl => match us, hl with | [_, _], _ => rfl
  have F22 := fun_mk (st := s__law_sees) l22 c22 k22
  have b22 := F22.binds (ps := ["tops"]) fun _ _ _ _ _ _ us hl => match us, hl with | [_], _ => rfl
  have F23 := fun_mk (st := s__law_stay) l23 c23 k23
  have b23 := F23.binds (ps := ["file", "some"]) fun _ _ _ _ _ _ us hl => match us, hl with | [_, _], _ => rfl
  have F24 := fun_mk (st := s__law_joined) l24 c24 k24
  have b24 := F24.binds (ps := ["rows"]) fun _ _ _ _ _ _ us hl => match us, hl with | [_], _ => rfl
  have F25 := fun_mk (st := s__law_is_paper) l25 c25 k25
  have b25 := F25.binds (ps := ["file", "many", "value"]) fun _ _ _ _ _ _ us hl => match us, hl with | [_, _, _], _ => rfl
  have F26 := fun_mk (st := s_law) l26 c26 k26
  refine ⟨PySem.W.fnOf "law" "law" (defArgs s_law) (defBody s_law) (defScope s_law) .none kV26 dc26 pm26 an26 cd26 ct26, fun s v => .of_eq rfl, fun base _ _ TBs => ?_⟩
  have G_is_whole : Prom l.prog w K mg base 1 "is_whole" ["value", "low", "high"] (spF Z0 (m_is_whole) 3) := Prom.mk' F0 (PySem.W.mg_of X G a0) b0 (ok_is_whole F0 T )
  have G_is_tuple_of : Prom l.prog w K mg base 1 "is_tuple_of" ["value", "low", "high"] (spF Z0 (m_is_tuple_of) 3) := Prom.mk' F1 (PySem.W.mg_of X G a1) b1 (ok_is_tuple_of F1 T )
  have G_is_rising : Prom l.prog w K mg base 1 "is_rising" ["value"] (spF Z0 (m_is_rising) 1) := Prom.mk' F2 (PySem.W.mg_of X G a2) b2 (ok_is_rising F2 T )
  have G_fits_some : Prom l.prog w K mg base 2 "fits_some" ["many", "value"] (spF Z0 (m_fits_some) 2) := Prom.mk' F3 (PySem.W.mg_of X G a3) b3 (ok_fits_some F3 T G_is_rising G_is_tuple_of G_is_whole)
  have TB_subsets_of : LamX.TabB base mg c_subsets_of P_subsets_of := TBs (c_subsets_of, P_subsets_of, q_subsets_of) (by simp)
  have G_subsets_of : Prom l.prog w K mg base 1 "subsets_of" ["many"] (spF Z0 (m_subsets_of) 1) := Prom.mk' F4 (PySem.W.mg_of X G a4) b4 (ok_subsets_of (funC_mk l4 c4) TB_subsets_of (by rw [hTab]; simp) (by rw [hTab]; intro z hz; simp at hz; simp [hz]) T )
  have G_fits_file : Prom l.prog w K mg base 2 "fits_file" ["value"] (spF Z0 (m_fits_file) 1) := Prom.mk' F5 (PySem.W.mg_of X G a5) b5 (ok_fits_file F5 T G_is_tuple_of G_is_whole)
  have G_need_file : Prom l.prog w K mg base 3 "need_file" ["file"] (spF Z0 (m_need_file) 1) := Prom.mk' F6 (PySem.W.mg_of X G a6) b6 (ok_need_file F6 T G_fits_file)
  have G_rising_in : Prom l.prog w K mg base 1 "rising_in" ["file", "some"] (spF Z0 (m_rising_in) 2) := Prom.mk' F7 (PySem.W.mg_of X G a7) b7 (ok_rising_in F7 T )
  have G_falling_in : Prom l.prog w K mg base 1 "falling_in" ["file", "some"] (spF Z0 (m_falling_in) 2) := Prom.mk' F8 (PySem.W.mg_of X G a8) b8 (ok_falling_in F8 T )
  have G_longest_in : Prom l.prog w K mg base 1 "longest_in" ["file"] (spF Z0 (m_longest_in) 1) := Prom.mk' F9 (PySem.W.mg_of X G a9) b9 (ok_longest_in F9 T )
  have G_who_stays : Prom l.prog w K mg base 2 "who_stays" ["file"] (spF Z0 (m_who_stays) 1) := Prom.mk' F10 (PySem.W.mg_of X G a10) b10 (ok_who_stays F10 T G_longest_in G_rising_in G_subsets_of)
  have G_stays : Prom l.prog w K mg base 4 "stays" ["file"] (spF Z0 (m_stays) 1) := Prom.mk' F11 (PySem.W.mg_of X G a11) b11 (ok_stays F11 T G_need_file G_who_stays)
  have G_are_staying : Prom l.prog w K mg base 4 "are_staying" ["file", "value"] (spF Z0 (m_are_staying) 2) := Prom.mk' F12 (PySem.W.mg_of X G a12) b12 (ok_are_staying F12 T G_fits_some G_need_file G_rising_in)
  have G_rows_paper : Prom l.prog w K mg base 4 "rows_paper" ["file"] (spF Z0 (m_rows_paper) 1) := Prom.mk' F13 (PySem.W.mg_of X G a13) b13 (ok_rows_paper F13 T G_longest_in G_need_file)
  have G_is_rows_paper : Prom l.prog w K mg base 4 "is_rows_paper" ["file", "many", "value"] (spF Z0 (m_is_rows_paper) 3) := Prom.mk' F14 (PySem.W.mg_of X G a14) b14 (ok_is_rows_paper F14 T G_falling_in G_fits_some G_is_tuple_of G_is_whole G_need_file)
  have G_fewest_moves : Prom l.prog w K mg base 4 "fewest_moves" ["file"] (spF Z0 (m_fewest_moves) 1) := Prom.mk' F15 (PySem.W.mg_of X G a15) b15 (ok_fewest_moves F15 T G_longest_in G_need_file)
  have G__law_cup : Prom l.prog w K mg base 1 "_law_cup" ["script"] (spCup K okCup) := Prom.mk' F16 (PySem.W.mg_of X G a16) b16 (ok__law_cup hcup F16 T)
  have G__law_roll : Prom l.prog w K mg base 1 "_law_roll" ["cup", "many"] (spIO Z0 (m__law_roll) 2) := Prom.mk' F17 (PySem.W.mg_of X G a17) b17 (ok__law_roll F17 T )
  have G__law_some : Prom l.prog w K mg base 2 "_law_some" ["cup", "things"] (spIO Z0 (m__law_some) 2) := Prom.mk' F18 (PySem.W.mg_of X G a18) b18 (ok__law_some F18 T G__law_roll)
  have G__law_same : Prom l.prog w K mg base 6 "_law_same" ["told", "due"] (spF Z0 (m__law_same 6) 2) := Prom.mk' F19 (PySem.W.mg_of X G a19) b19 (ok__law_same F19 (PySem.W.mg_of X G a19) b19 T  6)
  have G__law_subsets : Prom l.prog w K mg base 1 "_law_subsets" ["things"] (spF Z0 (m__law_subsets) 1) := Prom.mk' F20 (PySem.W.mg_of X G a20) b20 (ok__law_subsets F20 T )
  have G__law_file : Prom l.prog w K mg base 3 "_law_file" ["cup", "most"] (spIO Z0 (m__law_file) 2) := Prom.mk' F21 (PySem.W.mg_of X G a21) b21 (ok__law_file F21 T G__law_roll G__law_some)
  have G__law_sees : Prom l.prog w K mg base 1 "_law_sees" ["tops"] (spF Z0 (m__law_sees) 1) := Prom.mk' F22 (PySem.W.mg_of X G a22) b22 (ok__law_sees F22 T )
  have G__law_stay : Prom l.prog w K mg base 2 "_law_stay" ["file", "some"] (spF Z0 (m__law_stay) 2) := Prom.mk' F23 (PySem.W.mg_of X G a23) b23 (ok__law_stay F23 T G__law_sees)
  have G__law_joined : Prom l.prog w K mg base 1 "_law_joined" ["rows"] (spF Z0 (m__law_joined) 1) := Prom.mk' F24 (PySem.W.mg_of X G a24) b24 (ok__law_joined F24 T )
  have G__law_is_paper : Prom l.prog w K mg base 2 "_law_is_paper" ["file", "many", "value"] (spF Z0 (m__law_is_paper) 3) := Prom.mk' F25 (PySem.W.mg_of X G a25) b25 (ok__law_is_paper F25 T G__law_joined)
  exact ok_law hlaw F26 T G__law_cup G__law_file G__law_is_paper G__law_roll G__law_same G__law_some G__law_stay G__law_subsets G_are_staying G_fewest_moves G_is_rows_paper G_rows_paper G_stays
end Mir
set_option autoImplicit true
set_option Elab.async false
set_option linter.all false
set_option maxRecDepth 100000
namespace Mir
open PySem PI
theorem cup_true : ∀ c : Int, 0 ≤ c → ∃ x y env', okCup x y ∧ b__law_cup [none, some (.sh (.int c))] = .ok (.rt (.fr (.lst [.int x, .int y])) env') := cup_run (by decide) (by decide) (by decide) (by decide) (by decide) (by decide) (by decide)
theorem roll (c : Cup) (k : Int) (hk : 0 < k) (hk2 : k < 1073741824) : ∃ (r : Int) (c' : Cup), m__law_roll (cupD c) [.int k] = .ok (.sh (.int r), cupD c') ∧ 0 ≤ r ∧ r < k :=
  roll_run (by decide) (by decide) (by decide) (by decide) (by decide) (by decide) (by decide) c k hk hk2
theorem some_l (c : Cup) (ds : List D) (h : ds ≠ []) (h2 : ds.length < 1073741824) : ∃ (x : D) (c' : Cup), x ∈ ds ∧ m__law_some (cupD c) [.list ds] = .ok (.sh x, cupD c') := (some_run roll c ds h h2).1
theorem same (k : Nat) (d : D) (h : Pl k d) : m__law_same (k + 1) [d, d] = .ok (.sh (.bool true)) := same_run (fun _ => rfl) k d h
theorem is_whole_eq (d : D) (lo hi : Int) : m_is_whole [d, .int lo, .int hi] = .ok (.sh (.bool (whole lo hi d))) := whole_run d lo hi
theorem is_tuple_eq (d : D) (lo hi : Int) : m_is_tuple_of [d, .int lo, .int hi] = .ok (.sh (.bool (tupOf lo hi d))) := tup_run d lo hi
def fileD : D → Bool
  | .tuple ds => decide (1 ≤ ds.length ∧ ds.length ≤ 10) && ds.all (whole 1 30)
  | _ => false
theorem fits_file_eq (d : D) : m_fits_file [d] = .ok (.sh (.bool (fileD d))) := by
  cases d with
  | tuple ds =>
    simp [m_fits_file, v_run, b_fits_file, is_tuple_eq, tupOf]
    by_cases h : (1 : Int) ≤ ds.length ∧ (ds.length : Int) ≤ 10
    · simp [h]
      have := compL_map (tg := gName 1) (ts := tYes) (el := fCall m_is_whole [fName 1, fC (.int 1), fC (.int 30)]) (own := [1]) (env := [some (.sh (.tuple ds)), none]) id (fun a => .bool (whole 1 30 a)) ds fun a _ => by simp [cs, is_whole_eq]
      rw [List.map_id] at this
      rw [this]
      simp [allD_map]
      rw [fileD, decide_eq_true (by omega), Bool.true_and]
    · simp [h]
      rw [fileD, decide_eq_false (by omega), Bool.false_and]
  | _ => simp [m_fits_file, v_run, b_fits_file, is_tuple_eq, tupOf, fileD]

theorem need_file_ok {d : D} (h : fileD d = true) : m_need_file [d] = .ok (.sh .none) := by simp [m_need_file, v_run, b_need_file, fits_file_eq, h]
theorem whole_ints {lo hi : Int} : ∀ {ds : List D}, ds.all (whole lo hi) = true → ∃ ys, ds = iL ys ∧ ∀ y ∈ ys, lo ≤ y ∧ y ≤ hi
  | [], _ => ⟨[], rfl, by simp⟩
  | d :: ds, h => by
    rw [List.all_cons, Bool.and_eq_true] at h
    obtain ⟨ys, e, hy⟩ := whole_ints h.2
    cases d with
    | int v =>
      have hv : lo ≤ v ∧ v ≤ hi := by simpa [whole] using h.1
      exact ⟨v :: ys, by rw [e]; rfl, fun y m => by
        rcases List.mem_cons.mp m with rfl | m
        · exact hv
        · exact hy y m⟩
    | _ => simp [whole] at h
theorem ints_whole {lo hi : Int} {ys : List Int} (h : ∀ y ∈ ys, lo ≤ y ∧ y ≤ hi) : (iL ys).all (whole lo hi) = true := by
  rw [iL, List.all_map, List.all_eq_true]
  intro y hy
  have := h y hy
  simp [whole, this]
def seenAt (ts : List Int) (k : Nat) : Bool := (ts.take k).all fun o => decide (o < nth ts k)
def sees (ts : List Int) : List Nat := (List.range ts.length).filter (seenAt ts)
theorem seenAt_iff {ts : List Int} {k : Nat} (hk : k < ts.length) : seenAt ts k = true ↔ ∀ j, j < k → nth ts j < nth ts k := by
  rw [seenAt, List.all_eq_true]
  constructor
  · intro h j hj
    have := h (nth ts j) (by
      rw [← nth_take hj]
      exact nth_mem (by simp; omega))
    simpa using this
  · intro h x hx
    obtain ⟨j, hj, e⟩ := mem_nth hx
    rw [List.length_take] at hj
    rw [nth_take (by omega)] at e
    subst e
    simpa using h j (by omega)
theorem law_sees_run (ts : List Int) (hp : ∀ t ∈ ts, 0 ≤ t) (hl : ts.length ≤ 1000) (b : Bool) : m__law_sees [if b then .list (iL ts) else .tuple (iL ts)] = .ok (.sh (.tuple (nL (sees ts)))) := by
  have key : NxP (forL (gName 3) b__law_sees_L1 (rng 0 ts.length) [some (.sh (if b then .list (iL ts) else .tuple (iL ts))), some (.sh (.tuple [])), some (.sh (.int (-1))), none]) fun e =>
      ∃ (h : Int) (v : Option MV), e = [some (.sh (if b then .list (iL ts) else .tuple (iL ts))), some (.sh (.tuple (nL (sees ts)))), some (.sh (.int h)), v] := by
    refine (forL_rng (I := fun m e => ∃ (h : Int) (v : Option MV), e = [some (.sh (if b then .list (iL ts) else .tuple (iL ts))), some (.sh (.tuple (nL ((List.range m).filter (seenAt ts))))), some (.sh (.int h)), v] ∧
      -1 ≤ h ∧ (∀ j, j < m → nth ts j ≤ h) ∧ (h = -1 ∨ ∃ j, j < m ∧ h = nth ts j)) ?_ ⟨-1, none, rfl, by omega, by omega, .inl rfl⟩).mono ?_
    · rintro k hk e ⟨h, v, rfl, h0, h1, h2⟩
      refine ⟨_, rfl, ?_⟩
      have hi : ixD (if b then .list (iL ts) else .tuple (iL ts)) (.int (k : Int)) = .ok (.sh (.int (nth ts k))) := by cases b <;> simp [ixT hk, ixL hk]
      have p := hp _ (nth_mem hk)
      by_cases g : h < nth ts k
      · have hs : seenAt ts k = true := (seenAt_iff hk).mpr fun j hj => by have := h1 j hj; omega
        have hlen : (List.filter (seenAt ts) (List.range k)).length ≤ k := by
          exact Nat.le_trans (List.length_filter_le ..) (by simp)
        refine NxP.one (e := [some (.sh (if b then .list (iL ts) else .tuple (iL ts))), some (.sh (.tuple (nL ((List.range (k + 1)).filter (seenAt ts))))), some (.sh (.int (nth ts k))), some (.sh (.int k))]) ?_ ⟨_, _, rfl, by omega, fun j hj => ?_, .inr ⟨k, by omega, rfl⟩⟩
        · simp [b__law_sees_L1, hi, g]
          rw [addD_tt (by simp; omega)]
          simp [hi, List.range_succ, List.filter_append, hs, nL]
        · rcases Nat.lt_succ_iff_lt_or_eq.mp hj with hj | rfl
          · have := h1 j hj; omega
          · omega
      · have hs : seenAt ts k = false := by
          rw [Bool.eq_false_iff]; intro hs
          rcases h2 with rfl | ⟨j, hj, rfl⟩
          · omega
          · have := (seenAt_iff hk).mp hs j hj; omega
        refine NxP.one (e := [some (.sh (if b then .list (iL ts) else .tuple (iL ts))), some (.sh (.tuple (nL ((List.range (k + 1)).filter (seenAt ts))))), some (.sh (.int h)), some (.sh (.int k))]) ?_ ⟨_, _, rfl, h0, fun j hj => ?_, ?_⟩
        · simp [b__law_sees_L1, hi, g, List.range_succ, List.filter_append, hs]
        · rcases Nat.lt_succ_iff_lt_or_eq.mp hj with hj | rfl
          · exact h1 j hj
          · omega
        · rcases h2 with h2 | ⟨j, hj, e⟩
          · exact .inl h2
          · exact .inr ⟨j, by omega, e⟩
    · rintro e ⟨h, v, rfl, _⟩
      exact ⟨h, v, rfl⟩
  obtain ⟨e, h1, h, v, rfl⟩ := key
  have h3 : lenD [if b then .list (iL ts) else .tuple (iL ts)] = .ok (.sh (.int ts.length)) := by cases b <;> simp
  simp [m__law_sees, v_run, b__law_sees, h3]
  rw [if_pos (by omega)]
  simp [h1]
theorem seen_of_len {ts : List Int} (h : (sees ts).length = ts.length) {i : Nat} (hi : i < ts.length) : seenAt ts i = true := by
  have h2 : sees ts = List.range ts.length := by
    have : (sees ts).Sublist (List.range ts.length) := List.filter_sublist
    exact this.eq_of_length (by simpa using h)
  have h3 : i ∈ sees ts := by rw [h2]; exact List.mem_range.mpr hi
  exact (List.mem_filter.mp h3).2
theorem sees_all {ts : List Int} : (sees ts).length = ts.length ↔ ∀ k, k + 1 < ts.length → nth ts k < nth ts (k + 1) := by
  constructor
  · intro h k hk
    have h2 : sees ts = List.range ts.length := by
      have : (sees ts).Sublist (List.range ts.length) := List.filter_sublist
      exact this.eq_of_length (by simpa using h)
    have h3 : ∀ a ∈ List.range ts.length, seenAt ts a = true := by
      intro a ha
      have : a ∈ sees ts := by rw [h2]; exact ha
      exact (List.mem_filter.mp this).2
    exact (seenAt_iff hk).mp (h3 _ (List.mem_range.mpr hk)) k (by omega)
  · intro h
    have h3 : ∀ a ∈ List.range ts.length, seenAt ts a = true := by
      intro a ha
      have ha := List.mem_range.mp ha
      refine (seenAt_iff ha).mpr fun j hj => ?_
      have go : ∀ d j, j + d + 1 < ts.length → nth ts j < nth ts (j + d + 1) := by
        intro d
        induction d with
        | zero => intro j hj; exact h j hj
        | succ d ih => intro j hj; have := ih j (by omega); have := h (j + d + 1) (by omega); rw [show j + (d + 1) + 1 = j + d + 1 + 1 by omega]; omega
      obtain ⟨d, rfl⟩ : ∃ d, a = j + d + 1 := ⟨a - j - 1, by omega⟩
      exact go d j ha
    rw [sees, List.filter_eq_self.mpr h3]; simp
def riseL (xs : List Int) : Bool := (List.range (xs.length - 1)).all fun k => decide (nth xs k < nth xs (k + 1))
theorem is_rising_eq (xs : List Int) : m_is_rising [.tuple (iL xs)] = .ok (.sh (.bool (riseL xs))) := by
  simp [m_is_rising, v_run, b_is_rising, cutL_from, iL_drop, zip_iL, -List.drop_one]
  rw [compL_map _ (fun (k : Nat) => .bool (decide (nth xs k < nth (xs.drop 1) k))) _ fun k _ => by simp [cs]]
  simp [-List.drop_one, nth_drop, Nat.add_comm]
  rw [allD_map fun k => decide (nth xs k < nth xs (k + 1))]
  simp [riseL]
theorem rise_iff {xs : List Int} : riseL xs = true ↔ ∀ k, k + 1 < xs.length → nth xs k < nth xs (k + 1) := by
  rw [riseL, List.all_eq_true]
  constructor
  · intro h k hk
    simpa using h k (List.mem_range.mpr (by omega))
  · intro h k hk
    have := List.mem_range.mp hk
    simpa using h k (by omega)
theorem sees_rise {ts : List Int} : ((sees ts).length = ts.length) ↔ riseL ts = true := sees_all.trans rise_iff.symm
/-- the heights of the places -/
def hts (f s : List Int) : List Int := s.map fun x => nth f x.toNat
/-- each place of s stands in f -/
def InF (f s : List Int) : Prop := ∀ x ∈ s, 0 ≤ x ∧ x < f.length
theorem ix_t {f : List Int} {x : Int} (h : 0 ≤ x ∧ x < f.length) : ixD (.tuple (iL f)) (.int x) = .ok (.sh (.int (nth f x.toNat))) := by
  have e : x = ((x.toNat : Nat) : Int) := by omega
  have := ixT (xs := f) (k := x.toNat) (by omega)
  rw [← e] at this
  exact this
theorem hts_comp {tg : FG} {el : FE} {own : List Nat} {env : PI.Env} {f s : List Int} (hs : InF f s) (h : ∀ x ∈ s, cs tg PI.tYes el own (.int x) env = .ok (some (.int (nth f x.toNat)), env)) :
    compL tg PI.tYes el own (iL s) env [] = .ok (iL (hts f s), env) := by
  have := compL_map (tg := tg) (ts := PI.tYes) (el := el) (own := own) (env := env) PyData.int (fun x => .int (nth f x.toNat)) s fun x hx => h x hx
  rw [iL, this, hts, iL, List.map_map]
  rfl
theorem rising_eq {f s : List Int} (hs : InF f s) : m_rising_in [.tuple (iL f), .tuple (iL s)] = .ok (.sh (.bool (riseL (hts f s)))) := by
  simp [m_rising_in, v_run, b_rising_in]
  rw [hts_comp hs fun x hx => by simp [cs, ix_t (hs x hx)]]
  generalize hts f s = xs
  simp [cutL_from, iL_drop, zip_iL, -List.drop_one]
  rw [compL_map _ (fun (k : Nat) => .bool (decide (nth xs k < nth (xs.drop 1) k))) _ fun k _ => by simp [cs]]
  simp [-List.drop_one, nth_drop, Nat.add_comm]
  rw [allD_map fun k => decide (nth xs k < nth xs (k + 1))]
  simp [riseL]
def fallL (xs : List Int) : Bool := (List.range (xs.length - 1)).all fun k => decide (nth xs (k + 1) ≤ nth xs k)
theorem falling_eq {f s : List Int} (hs : InF f s) : m_falling_in [.tuple (iL f), .tuple (iL s)] = .ok (.sh (.bool (fallL (hts f s)))) := by
  simp [m_falling_in, v_run, b_falling_in]
  rw [hts_comp hs fun x hx => by simp [cs, ix_t (hs x hx)]]
  generalize hts f s = xs
  simp [cutL_from, iL_drop, zip_iL, -List.drop_one]
  rw [compL_map _ (fun (k : Nat) => .bool (decide (nth (xs.drop 1) k ≤ nth xs k))) _ fun k _ => by simp [cs]]
  simp [-List.drop_one, nth_drop, Nat.add_comm]
  rw [allD_map fun k => decide (nth xs (k + 1) ≤ nth xs k)]
  simp [fallL]
theorem stay_eq {f s : List Int} (hs : InF f s) (hf : ∀ x ∈ f, 1 ≤ x) (hl : s.length ≤ 1000) : m__law_stay [.tuple (iL f), .tuple (iL s)] = .ok (.sh (.bool (riseL (hts f s)))) := by
  simp [m__law_stay, v_run, b__law_stay]
  rw [hts_comp hs fun x hx => by simp [cs, ix_t (hs x hx)]]
  have h1 := law_sees_run (hts f s) (fun t ht => by
    obtain ⟨x, hx, rfl⟩ := List.mem_map.mp ht
    have := hf _ (nth_mem (xs := f) (k := x.toNat) (by have := hs x hx; omega))
    omega) (by simpa [hts] using hl) true
  have h2 : (hts f s).length = s.length := by simp [hts]
  simp at h1
  simp [h1]
  have h3 := sees_rise (ts := hts f s)
  rw [h2] at h3
  cases hr : riseL (hts f s) with
  | true => have := h3.mpr hr; simp [this]
  | false =>
    have : (sees (hts f s)).length ≠ s.length := fun e => by rw [h3.mp e] at hr; cases hr
    have : ¬ (((sees (hts f s)).length : Int) = s.length) := by omega
    simp [this]
end Mir
set_option autoImplicit true
set_option Elab.async false
set_option linter.all false
set_option maxRecDepth 100000
namespace Mir
open PySem PI
abbrev Val := Int × List Int
def valD (v : Val) : D := .tuple [.int v.1, .tuple (iL v.2)]
def ltV (x y : Val) : Bool := PySem.W.dataLt (valD x) (valD y)
def lv (x y : Val) : Prop := x.1 < y.1 ∨ (x.1 = y.1 ∧ x.2 < y.2)
theorem ltI (xs ys : List Int) : PySem.W.dataLt (.tuple (iL xs)) (.tuple (iL ys)) = decide (xs < ys) := by
  rw [PySem.W.dataLt_tuple]
  exact PySem.W.dataLt_ints xs ys
theorem ltV_iff (x y : Val) : ltV x y = true ↔ lv x y := by
  have h : ltV x y = if PyData.eqv (.int x.1) (.int y.1) = true then (if PyData.eqv (.tuple (iL x.2)) (.tuple (iL y.2)) = true then false else PySem.W.dataLt (.tuple (iL x.2)) (.tuple (iL y.2))) else PySem.W.dataLt (.int x.1) (.int y.1) := by
    unfold ltV valD
    exact PySem.W.dataLt_pair (by simp [PySem.W.alike]) (by rw [PySem.W.alike]; exact alikeAll_ints _ _)
  rw [h, eqv_ii, PySem.W.dataLt_int, eqv_tt, ltI]
  unfold lv
  by_cases e : x.1 = y.1
  · rw [if_pos (by simpa using e)]
    by_cases e2 : x.2 = y.2
    · rw [if_pos (by simpa using e2)]
      simp [e, e2]
    · rw [if_neg (by simpa using e2)]
      simp [e]
  · rw [if_neg (by simpa using e)]
    simp [e]
theorem lv_irr (x : Val) : ¬ lv x x := by
  rintro (h | ⟨_, h⟩)
  · omega
  · exact List.lt_irrefl _ h
theorem lv_trans {x y z : Val} (h : lv x y) (g : lv y z) : lv x z := by
  rcases h with h | ⟨h1, h2⟩
  · rcases g with g | ⟨g1, g2⟩
    · exact .inl (by omega)
    · exact .inl (by omega)
  · rcases g with g | ⟨g1, g2⟩
    · exact .inl (by omega)
    · exact .inr ⟨by omega, List.lt_trans h2 g2⟩
theorem lt_tri : ∀ (xs ys : List Int), xs < ys ∨ xs = ys ∨ ys < xs
  | [], [] => .inr (.inl rfl)
  | [], y :: ys => .inl (List.nil_lt_cons _ _)
  | x :: xs, [] => .inr (.inr (List.nil_lt_cons _ _))
  | x :: xs, y :: ys => by
    rw [List.cons_lt_cons_iff, List.cons_lt_cons_iff]
    have := lt_tri xs ys
    rcases Int.lt_trichotomy x y with h | h | h
    · exact .inl (.inl h)
    · subst h
      rcases this with g | g | g
      · exact .inl (.inr ⟨rfl, g⟩)
      · exact .inr (.inl (by rw [g]))
      · exact .inr (.inr (.inr ⟨rfl, g⟩))
    · exact .inr (.inr (.inl h))
theorem lv_tri (x y : Val) : lv x y ∨ x = y ∨ lv y x := by
  rcases Int.lt_trichotomy x.1 y.1 with h | h | h
  · exact .inl (.inl h)
  · rcases lt_tri x.2 y.2 with g | g | g
    · exact .inl (.inr ⟨h, g⟩)
    · exact .inr (.inl (Prod.ext h g))
    · exact .inr (.inr (.inr ⟨h.symm, g⟩))
  · exact .inr (.inr (.inl h))
/-! ### sorting values -/
def leV (a b : Val) : Bool := !ltV b a
theorem leV_iff {a b : Val} : leV a b = true ↔ a = b ∨ lv a b := by
  unfold leV
  rw [Bool.not_eq_true', Bool.eq_false_iff, Ne, ltV_iff]
  rcases lv_tri a b with g | g | g
  · exact ⟨fun _ => .inr g, fun _ z => lv_irr _ (lv_trans z g)⟩
  · subst g; exact ⟨fun _ => .inl rfl, fun _ => lv_irr _⟩
  · refine ⟨fun z => absurd g z, fun z => ?_⟩
    rcases z with rfl | z
    · exact lv_irr _
    · exact absurd (lv_trans z g) (lv_irr _)
theorem leV_trans (a b c : Val) (h : leV a b = true) (g : leV b c = true) : leV a c = true := by
  rw [leV_iff] at *
  rcases h with rfl | h
  · exact g
  · rcases g with rfl | g
    · exact .inr h
    · exact .inr (lv_trans h g)
theorem leV_total (a b : Val) : (leV a b || leV b a) = true := by
  rw [Bool.or_eq_true, leV_iff, leV_iff]
  rcases lv_tri a b with g | g | g
  · exact .inl (.inr g)
  · exact .inl (.inl g)
  · exact .inr (.inr g)
theorem leV_anti {a b : Val} (h : leV a b = true) (g : leV b a = true) : a = b := by
  rw [leV_iff] at *
  rcases h with h | h
  · exact h
  · rcases g with g | g
    · exact g.symm
    · exact absurd (lv_trans h g) (lv_irr _)
theorem sort_head {α : Type} {X : List α} (k : α → Val) {p : α → Bool} {a : α} (h : ((X.mergeSort fun a b => leV (k a) (k b)).filter p)[0]? = some a) : a ∈ X ∧ p a = true ∧ ∀ b ∈ X, p b = true → leV (k a) (k b) = true := by
  have ord := (List.pairwise_mergeSort (le := fun a b : α => leV (k a) (k b)) (fun a b c => leV_trans _ _ _) (fun a b => leV_total _ _) X).filter p
  have mem : ∀ b, b ∈ (X.mergeSort fun a b => leV (k a) (k b)).filter p ↔ b ∈ X ∧ p b = true := fun b => by rw [List.mem_filter, List.mem_mergeSort]
  generalize (X.mergeSort fun a b => leV (k a) (k b)).filter p = L at *
  cases L with
  | nil => simp at h
  | cons c r =>
    simp at h
    subst h
    have h1 := (mem c).mp List.mem_cons_self
    refine ⟨h1.1, h1.2, fun b hb pb => ?_⟩
    rcases List.mem_cons.mp ((mem b).mpr ⟨hb, pb⟩) with rfl | hb
    · exact leV_iff.mpr (.inl rfl)
    · exact (List.pairwise_cons.mp ord).1 b hb
theorem sort_head_ex {α : Type} {X : List α} (k : α → Val) {p : α → Bool} {b : α} (hb : b ∈ X) (pb : p b = true) : ∃ a, ((X.mergeSort fun a b => leV (k a) (k b)).filter p)[0]? = some a := by
  have : b ∈ (X.mergeSort fun a b => leV (k a) (k b)).filter p := by rw [List.mem_filter, List.mem_mergeSort]; exact ⟨hb, pb⟩
  cases h : (X.mergeSort fun a b => leV (k a) (k b)).filter p with
  | nil => rw [h] at this; cases this
  | cons c r => exact ⟨c, rfl⟩
theorem sortOk_vals (X : List Val) : sortOk (X.map valD) = true := by
  unfold sortOk
  rw [Bool.and_eq_true, Bool.and_eq_true, Bool.or_eq_true]
  refine ⟨List.all_eq_true.mpr fun d hd => ?_, List.all_eq_true.mpr fun d hd => List.all_eq_true.mpr fun e he => ?_, .inl (List.all_eq_true.mpr fun d hd => ?_)⟩
  · obtain ⟨r, _, rfl⟩ := List.mem_map.mp hd
    have h1 : (valD r).plain = true := by
      have := plain_tL r.2
      simp [valD, PyData.plain, PyData.plainAll] at this ⊢
      exact this
    rw [h1]
    simp [valD, depth_t, depthAll_c, depthAll_0, depth_iL, depth_i]
  · obtain ⟨r, _, rfl⟩ := List.mem_map.mp hd; obtain ⟨q, _, rfl⟩ := List.mem_map.mp he
    simp [valD, PySem.W.alike, PySem.W.alikeAll, alikeAll_ints]
  · obtain ⟨r, _, rfl⟩ := List.mem_map.mp hd
    rfl
theorem sortA_vals (X : List Val) : sortA [.list (X.map valD)] = .ok (.fr (.lst ((X.mergeSort leV).map valD))) := by
  show (if sortOk (X.map valD) = true then R.ok (RV.fr (.lst (sortDs (X.map valD)))) else _) = _
  rw [if_pos (sortOk_vals X)]
  unfold sortDs
  rw [List.map_mergeSort fun a _ b _ => (show leV a b = PySem.W.dataLe false id (valD a) (valD b) from rfl)]
/-- a row of places by its length, then by its places -/
def lenV (s : List Int) : Val := ((s.length : Int), s)
def sortL (X : List (List Int)) : List (List Int) := X.mergeSort fun a b => leV (lenV a) (lenV b)
theorem sortLen_rows (X : List (List Int)) : sortLenD (.list (X.map rowT)) = .ok (.fr (.lst ((sortL X).map rowT))) := by
  have h : (X.map rowT).all isIntT = true := List.all_eq_true.mpr fun d hd => by
    obtain ⟨r, _, rfl⟩ := List.mem_map.mp hd
    show (iL r).all isI = true
    exact List.all_eq_true.mpr fun e he => by obtain ⟨i, _, rfl⟩ := List.mem_map.mp he; rfl
  show (if (X.map rowT).all isIntT = true then _ else _) = _
  rw [if_pos h, sortL, List.map_mergeSort]
  intro a _ b _
  have e : ∀ r : List Int, keyLen (rowT r) = valD (lenV r) := fun r => by simp [keyLen, rowT, valD, lenV]
  show (!PySem.W.dataLt (valD (lenV b)) (valD (lenV a))) = (!PySem.W.dataLt (keyLen (rowT b)) (keyLen (rowT a)))
  rw [e, e]
/-! ### the subsets -/
def subs : Nat → List (List Int)
  | 0 => [[]]
  | n + 1 => subs n ++ (subs n).map fun s => s ++ [(n : Int)]
theorem subs_len : ∀ n, (subs n).length = 2 ^ n
  | 0 => rfl
  | n + 1 => by simp [subs, subs_len n, Nat.pow_succ]; omega
theorem subs_le {n : Nat} (h : n ≤ 10) : (subs n).length ≤ 1024 := by
  rw [subs_len]
  exact Nat.le_trans (Nat.pow_le_pow_right (by omega) h) (by decide)
theorem subs_row : ∀ {n : Nat} {s : List Int}, s ∈ subs n → s.length ≤ n
  | 0, s, h => by simp [subs] at h; simp [h]
  | n + 1, s, h => by
    rcases List.mem_append.mp h with h | h
    · exact Nat.le_succ_of_le (subs_row h)
    · obtain ⟨t, ht, rfl⟩ := List.mem_map.mp h
      have := subs_row ht
      simp; omega
theorem subs_ok : ∀ {n : Nat} {s : List Int}, s ∈ subs n → s.Pairwise (· < ·) ∧ ∀ x ∈ s, 0 ≤ x ∧ x < n
  | 0, s, h => by simp [subs] at h; simp [h]
  | n + 1, s, h => by
    rcases List.mem_append.mp h with h | h
    · have := subs_ok h
      exact ⟨this.1, fun x hx => by have := this.2 x hx; omega⟩
    · obtain ⟨t, ht, rfl⟩ := List.mem_map.mp h
      have := subs_ok ht
      refine ⟨List.pairwise_append.mpr ⟨this.1, by simp, fun a ha b hb => ?_⟩, fun x hx => ?_⟩
      · simp at hb; subst hb; exact (this.2 a ha).2
      · rcases List.mem_append.mp hx with hx | hx
        · have := this.2 x hx; omega
        · simp at hx; omega
theorem subs_of : ∀ {n : Nat} {s : List Int}, s.Pairwise (· < ·) → (∀ x ∈ s, 0 ≤ x ∧ x < n) → s ∈ subs n
  | 0, s, h, g => by
    cases s with
    | nil => simp [subs]
    | cons a r => have := g a (by simp); omega
  | n + 1, s, h, g => by
    by_cases hn : (n : Int) ∈ s
    · have hs : s ≠ [] := List.ne_nil_of_mem hn
      obtain ⟨t, y, rfl⟩ : ∃ t y, s = t ++ [y] := ⟨s.dropLast, s.getLast hs, (List.dropLast_concat_getLast hs).symm⟩
      obtain ⟨p1, _, p2⟩ := List.pairwise_append.mp h
      have hy : y = n := by
        rcases List.mem_append.mp hn with q | q
        · have := p2 _ q y (by simp); have := g y (by simp); omega
        · simp at q; exact q.symm
      subst hy
      refine List.mem_append.mpr (.inr (List.mem_map.mpr ⟨t, subs_of p1 fun x hx => ?_, rfl⟩))
      have := p2 x hx n (by simp)
      have := g x (by simp [hx])
      omega
    · refine List.mem_append.mpr (.inl (subs_of h fun x hx => ?_))
      have := g x hx
      have : x ≠ n := fun z => hn (z ▸ hx)
      omega
theorem sub_comp {tg : FG} {el : FE} {own : List Nat} {env : PI.Env} {m : Nat} (h : ∀ s ∈ subs m, cs tg PI.tYes el own (rowT s) env = .ok (some (rowT (s ++ [(m : Int)])), env)) :
    compL tg PI.tYes el own ((subs m).map rowT) env [] = .ok (((subs m).map fun s => s ++ [(m : Int)]).map rowT, env) := by
  have := compL_map (tg := tg) (ts := PI.tYes) (el := el) (own := own) (env := env) rowT (fun s => rowT (s ++ [(m : Int)])) (subs m) fun s hs => h s hs
  rw [this, List.map_map]
  rfl
theorem row_add {s : List Int} {m : Int} (h : s.length ≤ 1000) : addD (rowT s) (.tuple [.int m]) = .ok (.sh (rowT (s ++ [m]))) := by
  unfold rowT
  rw [addD_tt (by simp; omega)]
  simp [iL]
theorem subs_step {m : Nat} (hm : m ≤ 9) {e0 : Option MV} {v w : Option MV} : NxP (b_subsets_of_L1 [e0, some (.ow true (.lst ((subs m).map rowT))), some (.sh (.int (m : Int))), w]) fun e => ∃ w', e = [e0, some (.ow true (.lst ((subs (m + 1)).map rowT))), some (.sh (.int (m : Int))), w'] := by
  have hl := subs_le (n := m) (by omega)
  refine NxP.one (e := [e0, some (.ow true (.lst ((subs (m + 1)).map rowT))), some (.sh (.int (m : Int))), shOnly (some w)]) ?_ ⟨_, rfl⟩
  simp [b_subsets_of_L1]
  rw [sub_comp fun s hs => by
    have := subs_row hs
    simp [cs, row_add (s := s) (m := (m : Int)) (by omega)]]
  simp
  rw [addD_ll (by simp; omega)]
  simp [subs]
end Mir
set_option autoImplicit true
set_option Elab.async false
set_option linter.all false
set_option maxRecDepth 100000
namespace Mir
open PySem PI
theorem subsets_eq {n : Nat} (hn : n ≤ 10) : m_subsets_of [.int (n : Int)] = .ok (.fr (.lst ((sortL (subs n)).map rowT))) := by
  have key : NxP (forL (gName 2) b_subsets_of_L1 (rng 0 n) [some (.sh (.int (n : Int))), some (.ow true (.lst ((subs 0).map rowT))), none, none]) fun e =>
      ∃ v w, e = [some (.sh (.int (n : Int))), some (.ow true (.lst ((subs n).map rowT))), v, w] := by
    refine (forL_rng (I := fun m e => ∃ v w, e = [some (.sh (.int (n : Int))), some (.ow true (.lst ((subs m).map rowT))), v, w]) ?_ ⟨none, none, rfl⟩)
    rintro k hk e ⟨v, w, rfl⟩
    refine ⟨_, rfl, ?_⟩
    exact (subs_step (e0 := some (.sh (.int (n : Int)))) (v := none) (w := w) (m := k) (by omega)).mono fun e ⟨w', h⟩ => ⟨_, _, h⟩
  obtain ⟨e, h1, v, w, rfl⟩ := key
  have e0 : ([PyData.tuple []] : List D) = (subs 0).map rowT := rfl
  simp [m_subsets_of, v_run, b_subsets_of]
  rw [if_pos (by omega), e0]
  simp [h1, sortLen_rows]
theorem lsubs_step {m : Nat} (hm : m ≤ 9) {e0 : Option MV} {v w : Option MV} : NxP (b__law_subsets_L1 [e0, some (.ow true (.lst ((subs m).map rowT))), some (.sh (.int (m : Int))), w]) fun e => ∃ w', e = [e0, some (.ow true (.lst ((subs (m + 1)).map rowT))), some (.sh (.int (m : Int))), w'] := by
  have hl := subs_le (n := m) (by omega)
  refine NxP.one (e := [e0, some (.ow true (.lst ((subs (m + 1)).map rowT))), some (.sh (.int (m : Int))), shOnly (some w)]) ?_ ⟨_, rfl⟩
  simp [b__law_subsets_L1]
  rw [sub_comp fun s hs => by
    have := subs_row hs
    simp [cs, row_add (s := s) (m := (m : Int)) (by omega)]]
  simp
  rw [addD_ll (by simp; omega)]
  simp [subs]
theorem lsubs_eq {n : Nat} (hn : n ≤ 10) : m__law_subsets [.list (rng 0 n)] = .ok (.fr (.lst ((subs n).map rowT))) := by
  have key : NxP (forL (gName 2) b__law_subsets_L1 (rng 0 n) [some (.sh (.list (rng 0 n))), some (.ow true (.lst ((subs 0).map rowT))), none, none]) fun e =>
      ∃ v w, e = [some (.sh (.list (rng 0 n))), some (.ow true (.lst ((subs n).map rowT))), v, w] := by
    refine (forL_rng (I := fun m e => ∃ v w, e = [some (.sh (.list (rng 0 n))), some (.ow true (.lst ((subs m).map rowT))), v, w]) ?_ ⟨none, none, rfl⟩)
    rintro k hk e ⟨v, w, rfl⟩
    refine ⟨_, rfl, ?_⟩
    exact (lsubs_step (e0 := some (.sh (.list (rng 0 n)))) (v := none) (w := w) (m := k) (by omega)).mono fun e ⟨w', h⟩ => ⟨_, _, h⟩
  obtain ⟨e, h1, v, w, rfl⟩ := key
  have e0 : ([PyData.tuple []] : List D) = (subs 0).map rowT := rfl
  simp [m__law_subsets, v_run, b__law_subsets]
  rw [e0, h1]
  simp
/-! ### the longest rising row that ends at each place -/
def mx : List Int → Int
  | [] => 0
  | x :: r => maxI x r
theorem maxD_mx {xs : List Int} (h : xs ≠ []) : maxD [.list (iL xs)] = .ok (.sh (.int (mx xs))) := by
  cases xs with
  | nil => exact absurd rfl h
  | cons x r => simp only [maxD, intsOf_iL]; rfl
theorem mx_le {xs : List Int} {x : Int} (h : x ∈ xs) : x ≤ mx xs := by
  cases xs with
  | nil => cases h
  | cons y r => exact maxI_le r y x h
theorem mx_mem {xs : List Int} (h : xs ≠ []) : mx xs ∈ xs := by
  cases xs with
  | nil => exact absurd rfl h
  | cons y r => exact maxI_mem r y
/-- the places before k that stand lower -/
def ahead (f L : List Int) (k : Nat) : List Int := ((List.range k).filter fun b => decide (nth f b < nth f k)).map fun b => nth L b
def lenS (f : List Int) : Nat → List Int
  | 0 => []
  | k + 1 => lenS f k ++ [1 + mx (ahead f (lenS f k) k ++ [0])]
theorem lenS_len (f : List Int) : ∀ k, (lenS f k).length = k
  | 0 => rfl
  | k + 1 => by simp [lenS, lenS_len f k]
def lg (f : List Int) (i : Nat) : Int := 1 + mx (ahead f (lenS f i) i ++ [0])
theorem nth_left {xs ys : List Int} {i : Nat} (h : i < xs.length) : nth (xs ++ ys) i = nth xs i := by
  unfold nth; rw [List.getD_eq_getElem?_getD, List.getD_eq_getElem?_getD, List.getElem?_append_left h]
theorem nth_last {xs : List Int} {y : Int} : nth (xs ++ [y]) xs.length = y := by
  unfold nth; rw [List.getD_eq_getElem?_getD, List.getElem?_append_right (by omega)]; simp
theorem lenS_nth {f : List Int} : ∀ {n i : Nat}, i < n → nth (lenS f n) i = lg f i
  | n + 1, i, h => by
    have hl := lenS_len f n
    rw [lenS]
    rcases Nat.lt_succ_iff_lt_or_eq.mp h with h | rfl
    · rw [nth_left (by omega)]
      exact lenS_nth h
    · have := nth_last (xs := lenS f i) (y := 1 + mx (ahead f (lenS f i) i ++ [0]))
      rw [hl] at this
      exact this
theorem lenS_eq (f : List Int) (n : Nat) : lenS f n = (List.range n).map (lg f) := by
  apply List.ext_getElem
  · simp [lenS_len]
  · intro i h1 h2
    have hi : i < n := by simpa [lenS_len] using h1
    have := lenS_nth (f := f) hi
    unfold nth at this
    rw [List.getD_eq_getElem?_getD, List.getElem?_eq_getElem h1] at this
    simp at this
    simp [this]
theorem lg_one (f : List Int) (i : Nat) : 1 ≤ lg f i := by
  have : (0 : Int) ≤ mx (ahead f (lenS f i) i ++ [0]) := mx_le (by simp)
  unfold lg; omega
theorem lg_step {f : List Int} {b i : Nat} (h : b < i) (g : nth f b < nth f i) : lg f b + 1 ≤ lg f i := by
  have : lg f b ≤ mx (ahead f (lenS f i) i ++ [0]) := mx_le (List.mem_append.mpr (.inl (List.mem_map.mpr ⟨b, List.mem_filter.mpr ⟨List.mem_range.mpr h, by simpa using g⟩, lenS_nth h⟩)))
  unfold lg at *; omega
theorem lg_is (f : List Int) (i : Nat) : lg f i = 1 ∨ ∃ b, b < i ∧ nth f b < nth f i ∧ lg f i = 1 + lg f b := by
  have h : mx (ahead f (lenS f i) i ++ [0]) ∈ ahead f (lenS f i) i ++ [0] := mx_mem (by simp)
  rcases List.mem_append.mp h with h | h
  · obtain ⟨b, hb, e⟩ := List.mem_map.mp h
    obtain ⟨h1, h2⟩ := List.mem_filter.mp hb
    have h1 := List.mem_range.mp h1
    refine .inr ⟨b, h1, by simpa using h2, ?_⟩
    rw [lenS_nth h1] at e
    rw [lg, ← e]
  · simp at h
    exact .inl (by rw [lg, h]; rfl)
end Mir
set_option autoImplicit true
set_option Elab.async false
set_option linter.all false
set_option maxRecDepth 100000
namespace Mir
open PySem PI
theorem iL_map {α : Type} (g : α → Int) (xs : List α) : xs.map (fun a => PyData.int (g a)) = iL (xs.map g) := by rw [iL, List.map_map]; rfl
theorem ahead_len (f L : List Int) (k : Nat) : (ahead f L k).length ≤ k := by
  unfold ahead
  rw [List.length_map]
  exact Nat.le_trans (List.length_filter_le ..) (by simp)
theorem longest_eq {f : List Int} (hn : f.length ≤ 10) : m_longest_in [.tuple (iL f)] = .ok (.fr (.lst (iL (lenS f f.length)))) := by
  have key : NxP (forL (PI.gTup [gName 2, gName 3]) b_longest_in_L1 ((List.range f.length).map fun (k : Nat) => .tuple [.int k, .int (nth f k)]) [some (.sh (.tuple (iL f))), some (.ow true (.lst [])), none, none, none, none]) fun e =>
      ∃ v2 v3 v4 v5, e = [some (.sh (.tuple (iL f))), some (.ow true (.lst (iL (lenS f f.length)))), v2, v3, v4, v5] := by
    have := forL_idx (tg := PI.gTup [gName 2, gName 3]) (body := b_longest_in_L1) (c := fun (k : Nat) => .tuple [.int k, .int (nth f k)]) (I := fun m e => ∃ v2 v3 v4 v5, e = [some (.sh (.tuple (iL f))), some (.ow true (.lst (iL (lenS f m)))), v2, v3, v4, v5]) (List.range f.length) 0 (fun k x hk e i => ?_)
      [some (.sh (.tuple (iL f))), some (.ow true (.lst [])), none, none, none, none] ⟨none, none, none, none, rfl⟩
    · simpa using this
    · obtain ⟨v2, v3, v4, v5, rfl⟩ := i
      obtain ⟨g, e1⟩ := List.getElem?_eq_some_iff.mp hk
      rw [List.getElem_range] at e1
      rw [List.length_range] at g
      subst e1
      rw [Nat.zero_add]
      refine ⟨_, rfl, ?_⟩
      have hl := lenS_len f k
      have ha := ahead_len f (lenS f k) k
      refine NxP.one (e := [some (.sh (.tuple (iL f))), some (.ow true (.lst (iL (lenS f (k + 1))))), some (.sh (.int (k : Int))), some (.sh (.int (nth f k))), some (.ow true (.lst (iL (ahead f (lenS f k) k)))), shOnly (some v5)]) ?_ ⟨_, _, _, _, rfl⟩
      simp [b_longest_in_L1]
      rw [if_pos (by omega)]
      simp
      rw [compL_rngF (fun b => decide (nth f b < nth f k)) (fun b => .int (nth (lenS f k) b)) k fun b hb => by
        by_cases q : nth f b < nth f k
        · simp [cs, ixT (xs := f) (k := b) (by omega), ixL (xs := lenS f k) (k := b) (by omega), q]
        · simp [cs, ixT (xs := f) (k := b) (by omega), q]]
      rw [iL_map, show ((List.range k).filter fun b => decide (nth f b < nth f k)).map (fun b => nth (lenS f k) b) = ahead f (lenS f k) k from rfl]
      simp
      have e0 : ([PyData.int 0] : List D) = iL [0] := rfl
      rw [e0, addD_ll (by simp; omega), show iL (ahead f (lenS f k) k) ++ iL [0] = iL (ahead f (lenS f k) k ++ [0]) from List.map_append.symm]
      simp [maxD_mx]
      rw [if_pos (by omega), iL_snoc]
      simp [lenS]
  obtain ⟨e, h1, v2, v3, v4, v5, rfl⟩ := key
  simp [m_longest_in, v_run, b_longest_in, enum_iL, h1]
/-! ### the mathematics -/
def Ris (f s : List Int) : Prop := riseL (hts f s) = true
theorem hts_nth {f s : List Int} {k : Nat} (h : k < s.length) : nth (hts f s) k = nth f (nth s k).toNat := by
  unfold hts nth
  rw [List.getD_eq_getElem?_getD, List.getElem?_map, List.getElem?_eq_getElem h, List.getD_eq_getElem?_getD (l := s), List.getElem?_eq_getElem h]
  rfl
theorem ris_iff {f s : List Int} : Ris f s ↔ ∀ k, k + 1 < s.length → nth f (nth s k).toNat < nth f (nth s (k + 1)).toNat := by
  unfold Ris
  rw [rise_iff]
  have : (hts f s).length = s.length := by simp [hts]
  rw [this]
  constructor
  · intro h k hk
    have := h k hk
    rwa [hts_nth (by omega), hts_nth (by omega)] at this
  · intro h k hk
    rw [hts_nth (by omega), hts_nth (by omega)]
    exact h k hk
theorem pw_nth {s : List Int} (h : s.Pairwise (· < ·)) {k : Nat} (hk : k + 1 < s.length) : nth s k < nth s (k + 1) := by
  rw [nth_eq (by omega), nth_eq hk]
  exact List.pairwise_iff_getElem.mp h k (k + 1) (by omega) hk (by omega)
/-- a rising row is not longer than the number of its last place -/
theorem ris_lg {f s : List Int} (h : s.Pairwise (· < ·)) (h0 : ∀ x ∈ s, 0 ≤ x) (hr : Ris f s) : ∀ k, k < s.length → (k : Int) + 1 ≤ lg f (nth s k).toNat
  | 0, _ => by have := lg_one f (nth s 0).toNat; simp; omega
  | k + 1, hk => by
    have h1 := ris_lg h h0 hr k (by omega)
    have h2 := pw_nth h hk
    have h3 := ris_iff.mp hr k hk
    have h4 := h0 _ (nth_mem (xs := s) (k := k) (by omega))
    have := lg_step (f := f) (b := (nth s k).toNat) (i := (nth s (k + 1)).toNat) (by omega) h3
    omega
theorem ris_one (f : List Int) (x : Int) : Ris f [x] := ris_iff.mpr fun k hk => by simp at hk
theorem ris_add {f t : List Int} {b x : Int} (h : Ris f (t ++ [b])) (g : nth f b.toNat < nth f x.toNat) : Ris f (t ++ [b] ++ [x]) := by
  rw [ris_iff] at *
  intro k hk
  simp at hk
  rcases Nat.lt_or_ge k t.length with q | q
  · rw [nth_left (xs := t ++ [b]) (by simp; omega), nth_left (xs := t ++ [b]) (by simp; omega)]
    exact h k (by simp; omega)
  · have e : k = t.length := by omega
    subst e
    rw [nth_left (xs := t ++ [b]) (by simp), nth_last]
    have := nth_last (xs := t ++ [b]) (y := x)
    rw [show (t ++ [b]).length = t.length + 1 by simp] at this
    rw [this]
    exact g
/-- each place ends a rising row of its number -/
theorem lg_row (f : List Int) : ∀ (n i : Nat), i < n → ∃ t : List Int, (t ++ [(i : Int)]) ∈ subs (i + 1) ∧ Ris f (t ++ [(i : Int)]) ∧ ((t ++ [(i : Int)]).length : Int) = lg f i
  | n + 1, i, hi => by
    rcases lg_is f i with h | ⟨b, hb, hf, e⟩
    · refine ⟨[], subs_of (by simp) (fun x hx => by simp at hx; omega), ris_one f _, by simp [h]⟩
    · obtain ⟨t, h1, h2, h3⟩ := lg_row f n b (by omega)
      obtain ⟨p1, p2⟩ := subs_ok h1
      refine ⟨t ++ [(b : Int)], subs_of (List.pairwise_append.mpr ⟨p1, by simp, fun a ha c hc => ?_⟩) (fun x hx => ?_), ris_add h2 (by simpa using hf), ?_⟩
      · simp only [List.mem_singleton] at hc
        subst hc
        have := p2 a ha
        omega
      · rcases List.mem_append.mp hx with hx | hx
        · have := p2 x hx; omega
        · simp only [List.mem_singleton] at hx; omega
      · rw [List.length_append, e, ← h3]; simp; omega
theorem subs_mono {m n : Nat} (h : m ≤ n) {s : List Int} (hs : s ∈ subs m) : s ∈ subs n := by
  obtain ⟨a, b⟩ := subs_ok hs
  exact subs_of a fun x hx => by have := b x hx; omega
/-- the most that can stay -/
def mst (f : List Int) : Int := mx (lenS f f.length)
theorem mst_le {f s : List Int} (hs : s ∈ subs f.length) (hr : Ris f s) (h0 : 0 < f.length) : (s.length : Int) ≤ mst f := by
  obtain ⟨a, b⟩ := subs_ok hs
  by_cases h : s.length = 0
  · have : lg f 0 ≤ mst f := mx_le (by rw [lenS_eq]; exact List.mem_map.mpr ⟨0, List.mem_range.mpr h0, rfl⟩)
    have := lg_one f 0
    omega
  · have h1 := ris_lg a (fun x hx => (b x hx).1) hr (s.length - 1) (by omega)
    have h2 := b _ (nth_mem (xs := s) (k := s.length - 1) (by omega))
    have : lg f (nth s (s.length - 1)).toNat ≤ mst f := mx_le (by rw [lenS_eq]; exact List.mem_map.mpr ⟨_, List.mem_range.mpr (by omega), rfl⟩)
    omega
theorem mst_row {f : List Int} (h0 : 0 < f.length) : ∃ s, s ∈ subs f.length ∧ Ris f s ∧ (s.length : Int) = mst f := by
  have : mst f ∈ lenS f f.length := mx_mem fun z => by have := lenS_len f f.length; rw [z] at this; simp at this; omega
  rw [lenS_eq] at this
  obtain ⟨i, hi, e⟩ := List.mem_map.mp this
  have hi := List.mem_range.mp hi
  obtain ⟨t, h1, h2, h3⟩ := lg_row f f.length i hi
  exact ⟨_, subs_mono (by omega) h1, h2, by rw [h3, e]⟩
theorem mst_bd {f : List Int} (h0 : 0 < f.length) : 1 ≤ mst f ∧ mst f ≤ f.length := by
  obtain ⟨s, h1, _, h3⟩ := mst_row h0
  have := subs_row h1
  have h4 : lg f 0 ≤ mst f := mx_le (by rw [lenS_eq]; exact List.mem_map.mpr ⟨0, List.mem_range.mpr h0, rfl⟩)
  have := lg_one f 0
  omega
end Mir
set_option autoImplicit true
set_option Elab.async false
set_option linter.all false
set_option maxRecDepth 100000
namespace Mir
open PySem PI
/-- heights -/
structure File (fs : List Int) : Prop where
  l1 : 1 ≤ fs.length
  l2 : fs.length ≤ 10
  all : ∀ f ∈ fs, 1 ≤ f ∧ f ≤ 30
theorem File.d {fs : List Int} (F : File fs) : fileD (.tuple (iL fs)) = true := by
  rw [fileD, Bool.and_eq_true]
  exact ⟨by simpa using ⟨F.l1, F.l2⟩, ints_whole F.all⟩
theorem File.need {fs : List Int} (F : File fs) : m_need_file [.tuple (iL fs)] = .ok (.sh .none) := need_file_ok F.d
theorem subs_in {f s : List Int} (h : s ∈ subs f.length) : InF f s := (subs_ok h).2
/-! ### who stays -/
def stayB (f s : List Int) : Bool := decide ((s.length : Int) = mst f) && riseL (hts f s)
structure Who (f a : List Int) : Prop where
  sub : a ∈ subs f.length
  ris : Ris f a
  len : (a.length : Int) = mst f
  low : ∀ b ∈ subs f.length, Ris f b → (b.length : Int) = mst f → leV (lenV a) (lenV b) = true
theorem who_of {f a : List Int} (h : ((sortL (subs f.length)).filter (stayB f))[0]? = some a) : Who f a := by
  obtain ⟨h1, h2, h3⟩ := sort_head lenV h
  rw [stayB, Bool.and_eq_true, decide_eq_true_eq] at h2
  exact ⟨h1, h2.2, h2.1, fun b hb hr hl => h3 b hb (by rw [stayB, Bool.and_eq_true, decide_eq_true_eq]; exact ⟨hl, hr⟩)⟩
theorem who_uniq {f a b : List Int} (ha : Who f a) (hb : Who f b) : a = b := congrArg Prod.snd (leV_anti (ha.low b hb.sub hb.ris hb.len) (hb.low a ha.sub ha.ris ha.len))
theorem who_ex {f : List Int} (h0 : 0 < f.length) : ∃ a, ((sortL (subs f.length)).filter (stayB f))[0]? = some a := by
  obtain ⟨s, h1, h2, h3⟩ := mst_row h0
  exact sort_head_ex lenV h1 (by rw [stayB, Bool.and_eq_true, decide_eq_true_eq]; exact ⟨h3, h2⟩)
theorem sortL_mem {s : List Int} {X : List (List Int)} : s ∈ sortL X ↔ s ∈ X := List.mem_mergeSort
theorem who_stays_eq {f : List Int} (F : File f) : ∃ a, Who f a ∧ m_who_stays [.tuple (iL f)] = .ok (.sh (rowT a)) := by
  obtain ⟨a, ha⟩ := who_ex (f := f) (by have := F.l1; omega)
  refine ⟨a, who_of ha, ?_⟩
  have hne : lenS f f.length ≠ [] := fun z => by have := lenS_len f f.length; rw [z] at this; have := F.l1; simp at *; omega
  simp [m_who_stays, v_run, b_who_stays, longest_eq F.l2, maxD_mx hne, subsets_eq F.l2]
  rw [compL_flt rowT (stayB f) rowT _ fun s hs => by
    have hs := sortL_mem.mp hs
    have := rising_eq (subs_in hs)
    by_cases q : (s.length : Int) = mst f
    · cases g : riseL (hts f s) <;> (rw [g] at this; rw [mst] at q; simp [cs, rowT, this, stayB, q, g, mst])
    · have q' := q
      rw [mst] at q'
      simp [cs, rowT, stayB, q, q']]
  have i0 : ixD (.list (((sortL (subs f.length)).filter (stayB f)).map rowT)) (.int 0) = .ok (.sh (rowT a)) := ixD_l (atI_of (by omega) (by
    rw [show (0 : Int).toNat = 0 from rfl, List.getElem?_map, ha]; rfl))
  generalize ((sortL (subs f.length)).filter (stayB f)).map rowT = z at i0
  simp [i0]
theorem stays_eq {f : List Int} (F : File f) : ∃ a, Who f a ∧ m_stays [.tuple (iL f)] = .ok (.sh (rowT a)) := by
  obtain ⟨a, h, e⟩ := who_stays_eq F
  exact ⟨a, h, by simp [m_stays, v_run, b_stays, F.need, e]⟩
/-! ### the law's own good rows -/
def negV (s : List Int) : Val := (-(s.length : Int), s)
theorem negV_le {a b : List Int} (h : leV (negV a) (negV b) = true) : b.length ≤ a.length ∧ (b.length = a.length → leV (lenV a) (lenV b) = true) := by
  rw [leV_iff] at h
  rcases h with h | h
  · have : a = b := congrArg Prod.snd h
    subst this
    exact ⟨Nat.le_refl _, fun _ => leV_iff.mpr (.inl rfl)⟩
  · unfold negV lv at h
    simp at h
    refine ⟨by rcases h with h | h <;> omega, fun e => leV_iff.mpr (.inr ?_)⟩
    unfold lenV lv
    simp
    rcases h with h | h
    · omega
    · exact .inr ⟨by omega, h.2⟩
theorem good_who {f a : List Int} {v : Val} (h0 : 0 < f.length) (h : (((((subs f.length).filter fun s => riseL (hts f s)).map negV).mergeSort leV))[0]? = some v) (ha : Who f a) : v = negV a := by
  have h' : (((((subs f.length).filter fun s => riseL (hts f s)).map negV).mergeSort fun a b => leV (id a) (id b)).filter fun _ => true)[0]? = some v := by
    rw [List.filter_eq_self.mpr (by simp)]
    exact h
  obtain ⟨h1, _, h3⟩ := sort_head id h'
  obtain ⟨b, hb, rfl⟩ := List.mem_map.mp h1
  obtain ⟨hb1, hb2⟩ := List.mem_filter.mp hb
  have low : ∀ s ∈ subs f.length, Ris f s → leV (negV b) (negV s) = true := fun s hs hr => h3 _ (List.mem_map.mpr ⟨s, List.mem_filter.mpr ⟨hs, hr⟩, rfl⟩) rfl
  have l1 := (negV_le (low a ha.sub ha.ris)).1
  have l2 := mst_le hb1 hb2 h0
  have l3 := ha.len
  have hl : (b.length : Int) = mst f := by omega
  have : Who f b := ⟨hb1, hb2, hl, fun s hs hr hs2 => (negV_le (low s hs hr)).2 (by omega)⟩
  rw [who_uniq this ha]
end Mir
set_option autoImplicit true
set_option Elab.async false
set_option linter.all false
set_option maxRecDepth 100000
namespace Mir
open PySem PI
/-! ### a row of places, as any data -/
def items : D → List D
  | .tuple ps => ps
  | _ => []
def intOf : D → Int
  | .int v => v
  | _ => 0
def numsL (ds : List D) : List Int := ds.map intOf
@[simp] theorem numsL_iL (xs : List Int) : numsL (iL xs) = xs := by
  rw [numsL, iL, List.map_map]
  exact List.map_id xs
def fitsB (n : Nat) (d : D) : Bool := tupOf 0 n d && ((items d).all (whole 0 ((n : Int) - 1)) && riseL (numsL (items d)))
theorem fits_eq (n : Nat) (d : D) : m_fits_some [.int (n : Int), d] = .ok (.sh (.bool (fitsB n d))) := by
  unfold fitsB
  cases h : tupOf 0 (n : Int) d with
  | false => simp [m_fits_some, v_run, b_fits_some, is_tuple_eq, h]
  | true =>
    cases d with
    | tuple ds =>
      simp [m_fits_some, v_run, b_fits_some, is_tuple_eq, h]
      rw [compL_mapD (fun a => .bool (whole 0 ((n : Int) - 1) a)) ds fun a _ => by simp [cs, is_whole_eq]]
      have g' := allD_map (whole 0 ((n : Int) - 1)) ds
      cases g : ds.all (whole 0 ((n : Int) - 1)) with
      | false =>
        rw [g] at g'
        simp [g', items, g, -List.all_eq_true, -List.all_eq_false]
      | true =>
        rw [g] at g'
        obtain ⟨ys, rfl, _⟩ := whole_ints g
        simp [g', items, g, is_rising_eq, -List.all_eq_true, -List.all_eq_false]
    | _ => simp [tupOf] at h
theorem fits_row {n : Nat} {r : List Int} (h : fitsB n (rowT r) = true) : r.length ≤ n ∧ (∀ x ∈ r, 0 ≤ x ∧ x < n) ∧ riseL r = true := by
  unfold fitsB rowT at h
  simp only [Bool.and_eq_true, items, numsL_iL] at h
  obtain ⟨h1, h2, h3⟩ := h
  refine ⟨by simpa [tupOf] using h1, fun x hx => ?_, h3⟩
  have := List.all_eq_true.mp h2 (.int x) (List.mem_map.mpr ⟨x, hx, rfl⟩)
  simp [whole] at this
  omega
theorem row_fits {n : Nat} {r : List Int} (h1 : r.length ≤ n) (h2 : ∀ x ∈ r, 0 ≤ x ∧ x < n) (h3 : riseL r = true) : fitsB n (rowT r) = true := by
  unfold fitsB rowT
  simp only [Bool.and_eq_true, items, numsL_iL]
  refine ⟨by simpa [tupOf] using h1, ints_whole fun y hy => ?_, h3⟩
  have := h2 y hy
  omega
theorem rise_pw {r : List Int} : riseL r = true ↔ r.Pairwise (· < ·) := by
  rw [rise_iff]
  constructor
  · intro h
    rw [List.pairwise_iff_getElem]
    have go : ∀ d i, i + d + 1 < r.length → nth r i < nth r (i + d + 1) := by
      intro d
      induction d with
      | zero => intro i hi; exact h i hi
      | succ d ih => intro i hi; have := ih i (by omega); have := h (i + d + 1) (by omega); rw [show i + (d + 1) + 1 = i + d + 1 + 1 by omega]; omega
    intro i j hi hj hij
    have := go (j - i - 1) i (by omega)
    rw [show i + (j - i - 1) + 1 = j by omega, nth_eq hi, nth_eq hj] at this
    exact this
  · intro h k hk
    exact pw_nth h hk
theorem subs_fits {n : Nat} {s : List Int} (h : s ∈ subs n) : fitsB n (rowT s) = true := row_fits (subs_row h) (subs_ok h).2 (rise_pw.mpr (subs_ok h).1)
theorem are_eq {f s : List Int} (F : File f) (h : s ∈ subs f.length) : m_are_staying [.tuple (iL f), rowT s] = .ok (.sh (.bool (riseL (hts f s)))) := by
  have e := fits_eq f.length (rowT s)
  rw [subs_fits h] at e
  simp [m_are_staying, v_run, b_are_staying, F.need, e]
  rw [show rowT s = .tuple (iL s) from rfl, rising_eq (subs_in h)]
  simp
theorem are_bad {f : List Int} {d : D} (F : File f) (h : fitsB f.length d = false) : m_are_staying [.tuple (iL f), d] = .ok (.sh (.bool false)) := by
  have e := fits_eq f.length d
  rw [h] at e
  simp [m_are_staying, v_run, b_are_staying, F.need, e]
theorem fewest_eq {f : List Int} (F : File f) : m_fewest_moves [.tuple (iL f)] = .ok (.sh (if (dedI f).length = f.length then .int (f.length - mst f) else .none)) := by
  have hne : lenS f f.length ≠ [] := fun z => by have := lenS_len f f.length; rw [z] at this; have := F.l1; simp at *; omega
  have h2 := F.l2
  have h3 := dedI_len_le f
  simp [m_fewest_moves, v_run, b_fewest_moves, F.need, longest_eq F.l2, maxD_mx hne, lenSetD_t (ns := f) (by omega), mst]
  by_cases q : (dedI f).length = f.length
  · simp [q, longest_eq F.l2, maxD_mx hne]
  · have : (dedI f).length < f.length := by omega
    simp [q, this]
end Mir
set_option autoImplicit true
set_option Elab.async false
set_option linter.all false
set_option maxRecDepth 100000
namespace Mir
open PySem PI
def rowsD (rows : List (List Int)) : D := .tuple (rows.map rowT)
def rangeI (n : Nat) : List Int := (List.range n).map fun (k : Nat) => (k : Int)
theorem rng_range (n : Nat) : rng 0 n = iL (rangeI n) := by rw [rng0, iL_map]; rfl
@[simp] theorem items_row (r : List Int) : items (rowT r) = iL r := rfl
theorem plain_lL (zs : List Int) : PyData.plain (.list (iL zs)) = true := by rw [PyData.plain]; exact plain_iL zs
theorem eqD_lL (xs ys : List Int) : PI.eqD (.list (iL xs)) (.list (iL ys)) = .ok (.sh (.bool (decide (xs = ys)))) := by
  unfold PI.eqD
  rw [if_pos (eqOk_of (plain_lL xs) (plain_lL ys) (by rw [show (PyData.list (iL xs)).depth = (PyData.tuple (iL xs)).depth from rfl, depth_t, depth_iL]; omega)), PyData.eqv, eqvAll_iL]
theorem neD_lL (xs ys : List Int) : PI.neD (.list (iL xs)) (.list (iL ys)) = .ok (.sh (.bool (!decide (xs = ys)))) := by
  unfold PI.neD
  rw [if_pos (eqOk_of (plain_lL xs) (plain_lL ys) (by rw [show (PyData.list (iL xs)).depth = (PyData.tuple (iL xs)).depth from rfl, depth_t, depth_iL]; omega)), PyData.eqv, eqvAll_iL]
theorem flat_len : ∀ {rows : List (List Int)}, (∀ r ∈ rows, r.length ≤ 50) → rows.flatten.length ≤ rows.length * 50
  | [], _ => by simp
  | r :: rows, h => by
    have := flat_len fun x hx => h x (List.mem_cons_of_mem r hx)
    have := h r (by simp)
    rw [List.flatten_cons, List.length_append, List.length_cons]
    omega
/-- the places of all rows -/
theorem places_comp {rows : List (List Int)} (h : ∀ r ∈ rows, r.length ≤ 50) (hl : rows.length ≤ 1000) {A B C : D} : compL2 (gName 4) PI.tYes (iSeq (fName 4)) (gName 5) PI.tYes (fName 5) [4, 5] [5] (rows.map rowT) [some (.sh A), some (.sh B), some (.sh C), none, none, none] [] =
    .ok (iL rows.flatten, [some (.sh A), some (.sh B), some (.sh C), none, none, none]) := by
  have f1 := flat_len h
  have f2 : (rows.map iL).flatten = iL rows.flatten := by rw [iL, List.map_flatten]; rfl
  have key := compL2_map (tg := gName 4) (ts := PI.tYes) (fi1 := iSeq (fName 4)) (tg1 := gName 5) (ts1 := PI.tYes) (el := fName 5) (own := [4, 5]) (own1 := [5]) (env := [some (.sh A), some (.sh B), some (.sh C), none, none, none]) rowT iL rows []
    (fun r hr => by
      have c := compL_map (tg := gName 5) (ts := PI.tYes) (el := fName 5) (own := [5]) (env := [some (.sh A), some (.sh B), some (.sh C), none, some (.sh (rowT r)), none]) PyData.int PyData.int r fun q hq => by simp [cs]
      rw [show r.map PyData.int = iL r from rfl] at c
      have s : seqOf (rowT r) = .ok (iL r) := rfl
      generalize rowT r = R at *
      generalize iL r = L at *
      simp [cs2, s, c]) (by rw [List.nil_append, f2, iL, List.length_map]; omega)
  rw [List.nil_append, f2] at key
  exact key
def paper (f : List Int) (k : Int) (rows : List (List Int)) : Bool :=
  decide ((rows.length : Int) ≤ k) && ((rows.all fun r => fitsB f.length (rowT r)) && (decide (sortI rows.flatten = rangeI f.length) && rows.all fun r => fallL (hts f r)))
theorem is_paper_eq {f : List Int} (F : File f) {k : Int} (hk : 0 ≤ k) (hk2 : k ≤ 10) {rows : List (List Int)} (h : ∀ r ∈ rows, r.length ≤ 50) (hl : rows.length ≤ 1000) :
    m_is_rows_paper [.tuple (iL f), .int k, rowsD rows] = .ok (.sh (.bool (paper f k rows))) := by
  have w : whole 0 10 (.int k) = true := by simp [whole]; omega
  have h2 := F.l2
  have g1 := allD_map (fun r => fitsB f.length (rowT r)) rows
  simp [m_is_rows_paper, v_run, b_is_rows_paper, F.need, is_whole_eq, w, is_tuple_eq]
  unfold paper
  by_cases q : (rows.length : Int) ≤ k
  · have t : tupOf 0 k (rowsD rows) = true := by simp [tupOf, rowsD, q]
    simp [t, q]
    have e1 : seqOf (rowsD rows) = .ok (rows.map rowT) := rfl
    simp [e1]
    rw [compL_map rowT (fun r => .bool (fitsB f.length (rowT r))) rows fun r hr => by simp [cs, fits_eq]]
    cases g : rows.all fun r => fitsB f.length (rowT r) with
    | false =>
      rw [g] at g1
      simp [g1]
    | true =>
      rw [g] at g1
      have hin : ∀ r ∈ rows, InF f r := fun r hr => (fits_row (List.all_eq_true.mp g r hr)).2.1
      have f1 := flat_len h
      have pc := places_comp h hl (A := .tuple (iL f)) (B := .int k) (C := rowsD rows)
      have rg : rgOk 0 (f.length : Int) = true := decide_eq_true ⟨by omega, by omega⟩
      have g2 := allD_map (fun r => fallL (hts f r)) rows
      simp [g1, e1, pc, sortA_iL, rg, rng_range, eqD_lL]
      by_cases q2 : sortI rows.flatten = rangeI f.length
      · simp [q2, e1]
        rw [compL_map rowT (fun r => .bool (fallL (hts f r))) rows fun r hr => by simp [cs, rowT, falling_eq (hin r hr)]]
        simp [g2]
      · simp [q2]
  · have t : tupOf 0 k (rowsD rows) = false := by simp [tupOf, rowsD]; omega
    simp [t, q]
end Mir
set_option autoImplicit true
set_option Elab.async false
set_option linter.all false
set_option maxRecDepth 100000
namespace Mir
open PySem PI
theorem find_all {α : Type} (p : α → Bool) (v : RV) : ∀ xs : List α, (xs.findSome? fun x => if p x = true then none else some v) = if xs.all p = true then none else some v
  | [] => rfl
  | x :: xs => by
    rw [List.findSome?_cons, find_all p v xs, List.all_cons]
    cases p x
    · simp
    · rw [Bool.true_and]; rfl
theorem joined_eq {rows : List (List Int)} (h : ∀ r ∈ rows, r.length ≤ 50) (hl : rows.length ≤ 1000) : m__law_joined [rowsD rows] = .ok (.fr (.lst (iL rows.flatten))) := by
  have fl : ∀ m, (rows.take m).flatten.length ≤ 50000 := fun m => by
    have := flat_len (rows := rows.take m) fun r hr => h r (List.mem_of_mem_take hr)
    have : (rows.take m).length ≤ rows.length := by simp; omega
    omega
  have key : NxP (forL (gName 2) b__law_joined_L1 (rows.map rowT) [some (.sh (rowsD rows)), some (.ow true (.lst (iL (rows.take 0).flatten))), none]) fun e => ∃ v, e = [some (.sh (rowsD rows)), some (.ow true (.lst (iL (rows.take (0 + rows.length)).flatten))), v] := by
    refine forL_idx (I := fun m e => ∃ v, e = [some (.sh (rowsD rows)), some (.ow true (.lst (iL (rows.take m).flatten))), v]) (c := rowT) rows 0 ?_ _ ⟨none, rfl⟩
    rintro k r hk e ⟨v, rfl⟩
    rw [Nat.zero_add] at *
    obtain ⟨hk1, hk2⟩ := List.getElem?_eq_some_iff.mp hk
    have e1 : (rows.take (k + 1)).flatten = (rows.take k).flatten ++ r := by rw [List.take_add_one, hk]; simp
    refine ⟨_, rfl, NxP.one (e := [some (.sh (rowsD rows)), some (.ow true (.lst (iL (rows.take (k + 1)).flatten))), some (.sh (rowT r))]) ?_ ⟨_, rfl⟩⟩
    have f1 := fl k
    have f2 := h r (List.mem_of_getElem? hk)
    rw [e1]
    generalize (rows.take k).flatten = z at *
    simp [b__law_joined_L1, rowT]
    rw [addD_ll (by simp; omega), iL_app]
    simp
  obtain ⟨e, h1, v, rfl⟩ := key
  have e1 : seqOf (rowsD rows) = .ok (rows.map rowT) := rfl
  simp at h1
  simp [m__law_joined, v_run, b__law_joined, e1, h1]
theorem fallL_iff {xs : List Int} : fallL xs = true ↔ ∀ k, k + 1 < xs.length → nth xs (k + 1) ≤ nth xs k := by
  rw [fallL, List.all_eq_true]
  constructor
  · intro h k hk
    simpa using h k (List.mem_range.mpr (by omega))
  · intro h k hk
    have := List.mem_range.mp hk
    simpa using h k (by omega)
def goodR (f r : List Int) : Bool := decide (r = sortI (dedI r)) && fallL (hts f r)
theorem paper_row {f r : List Int} (hin : InF f r) (hl : r.length ≤ 50) {B C : D} {v3 v4 v5 : Option MV} : NR (b__law_is_paper_L1 [some (.sh (.tuple (iL f))), some (.sh B), some (.sh C), some (.sh (rowT r)), v4, v5])
    (fun e => ∃ v3 v4 v5, e = [some (.sh (.tuple (iL f))), some (.sh B), some (.sh C), v3, v4, v5]) (if goodR f r = true then none else some (.sh (.bool false))) := by
  have e2 : sortSetD (.tuple (iL r)) = .ok (.fr (.lst (iL (sortI (dedI r))))) := sortSetD_t (by omega)
  unfold goodR rowT
  by_cases q : r = sortI (dedI r)
  · have q' := q.symm
    simp [b__law_is_paper_L1, e2, neD_lL, q', cutL_from, iL_drop, zip_iL, -List.drop_one]
    rw [compL_flt _ (fun (k : Nat) => decide (nth f (nth r k).toNat < nth f (nth (r.drop 1) k).toNat)) (fun _ => .int 1) _ fun k hk => by
      have hk := List.mem_range.mp hk
      have a := hin _ (nth_mem (xs := r) (k := k) (by omega))
      have b := hin _ (nth_mem (xs := r) (k := k + 1) (by omega))
      have c : nth (r.drop 1) k = nth r (k + 1) := by rw [nth_drop, Nat.add_comm]
      rw [c]
      by_cases g : nth f (nth r k).toNat < nth f (nth r (k + 1)).toNat <;> simp [cs, ix_t a, ix_t b, g, -List.drop_one]]
    have key : ((List.range (r.length - 1)).filter fun k => decide (nth f (nth r k).toNat < nth f (nth (r.drop 1) k).toNat)) = [] ↔ fallL (hts f r) = true := by
      rw [List.filter_eq_nil_iff, fallL_iff]
      have hh : (hts f r).length = r.length := by simp [hts]
      constructor
      · intro h k hk
        rw [hh] at hk
        have := h k (List.mem_range.mpr (by omega))
        rw [nth_drop, Nat.add_comm] at this
        rw [hts_nth (by omega), hts_nth (by omega)]
        simpa using this
      · intro h k hk
        have hk := List.mem_range.mp hk
        have := h k (by omega)
        rw [hts_nth (by omega), hts_nth (by omega)] at this
        rw [nth_drop, Nat.add_comm]
        simpa using this
    generalize ((List.range (r.length - 1)).filter fun k => decide (nth f (nth r k).toNat < nth f (nth (r.drop 1) k).toNat)) = z at *
    cases hz : fallL (hts f r) with
    | true =>
      rw [key.mpr hz]
      simp [NR]
    | false =>
      have : z ≠ [] := fun e => by rw [key.mp e] at hz; cases hz
      obtain ⟨a, b, rfl⟩ := List.exists_cons_of_ne_nil this
      simp [NR]
  · simp [b__law_is_paper_L1, e2, neD_lL, q, NR]
def paperL (f : List Int) (k : Int) (rows : List (List Int)) : Bool := decide ((rows.length : Int) ≤ k) && (decide (sortI rows.flatten = rangeI f.length) && rows.all (goodR f))
theorem flat_in {f : List Int} {rows : List (List Int)} (h : sortI rows.flatten = rangeI f.length) {r : List Int} (hr : r ∈ rows) : InF f r := fun x hx => by
  have : x ∈ rangeI f.length := by rw [← h, (sortI_perm _).mem_iff]; exact List.mem_flatten.mpr ⟨r, hr, hx⟩
  obtain ⟨k, hk, rfl⟩ := List.mem_map.mp this
  have := List.mem_range.mp hk
  omega
theorem law_paper_eq {f : List Int} (F : File f) {k : Int} {rows : List (List Int)} (h : ∀ r ∈ rows, r.length ≤ 50) (hl : rows.length ≤ 1000) : m__law_is_paper [.tuple (iL f), .int k, rowsD rows] = .ok (.sh (.bool (paperL f k rows))) := by
  have h2 := F.l2
  have rg : rgOk 0 (f.length : Int) = true := decide_eq_true ⟨by omega, by omega⟩
  have e1 : seqOf (rowsD rows) = .ok (rows.map rowT) := rfl
  have e2 : lenD [rowsD rows] = .ok (.sh (.int rows.length)) := by simp [rowsD]
  unfold paperL
  simp [m__law_is_paper, v_run, b__law_is_paper, e2]
  by_cases q : (rows.length : Int) ≤ k
  · have q' : ¬ k < (rows.length : Int) := by omega
    simp [q, q', joined_eq h hl, sortA_iL, rg, rng_range, neD_lL]
    by_cases q2 : sortI rows.flatten = rangeI f.length
    · simp [q2, e1]
      have key := forL_nr (tg := gName 3) (body := b__law_is_paper_L1) (I := fun e => ∃ v3 v4 v5, e = [some (.sh (.tuple (iL f))), some (.sh (.int k)), some (.sh (rowsD rows)), v3, v4, v5]) (c := rowT) (f := fun r => if goodR f r = true then none else some (.sh (.bool false))) rows
        (by
          rintro r hr e ⟨v3, v4, v5, rfl⟩
          exact ⟨_, rfl, paper_row (v3 := none) (flat_in q2 hr) (h r hr)⟩) [some (.sh (.tuple (iL f))), some (.sh (.int k)), some (.sh (rowsD rows)), none, none, none] ⟨none, none, none, rfl⟩
      rw [find_all] at key
      cases g : rows.all (goodR f) with
      | true =>
        rw [g] at key
        obtain ⟨e, h3, v3, v4, v5, rfl⟩ := key
        simp [h3]
      | false =>
        rw [g] at key
        obtain ⟨e, h3⟩ := key
        simp [h3]
    · simp [q2]
  · have q' : k < (rows.length : Int) := by omega
    simp [q, q']
theorem ded_rise {r : List Int} : r = sortI (dedI r) ↔ riseL r = true := by
  rw [rise_pw]
  constructor
  · intro h
    have h1 := sortI_ord (dedI r)
    have h2 : (sortI (dedI r)).Nodup := (sortI_perm _).nodup_iff.mpr (dedI_nodup r)
    rw [← h] at h1 h2
    exact (h1.and h2).imp fun ⟨a, b⟩ => by omega
  · intro h
    have nd : r.Nodup := h.imp fun a => by omega
    rw [dedI_self nd]
    exact ord_uniq (sortI_perm r).symm (h.imp fun a => by omega) (sortI_ord r)
theorem paper_same (f : List Int) (k : Int) (rows : List (List Int)) : paper f k rows = paperL f k rows := by
  unfold paper paperL
  by_cases q2 : sortI rows.flatten = rangeI f.length
  · have key : (rows.all (goodR f)) = ((rows.all fun r => fitsB f.length (rowT r)) && rows.all fun r => fallL (hts f r)) := by
      rw [Bool.eq_iff_iff]
      simp only [Bool.and_eq_true, List.all_eq_true, goodR, decide_eq_true_eq]
      constructor
      · intro h
        refine ⟨fun r hr => ?_, fun r hr => (h r hr).2⟩
        have hp := rise_pw.mp (ded_rise.mp (h r hr).1)
        have hi := flat_in q2 hr
        exact row_fits (subs_row (subs_of hp hi)) hi (ded_rise.mp (h r hr).1)
      · rintro ⟨h1, h2⟩ r hr
        exact ⟨ded_rise.mpr (fits_row (h1 r hr)).2.2, h2 r hr⟩
    rw [key]
    simp [q2, Bool.and_assoc]
  · simp [q2]
end Mir
set_option autoImplicit true
set_option Elab.async false
set_option linter.all false
set_option maxRecDepth 100000
namespace Mir
open PySem PI
theorem file_run (c : Cup) : ∃ (fs : List Int) (c' : Cup), (File fs ∧ fs.length ≤ 8) ∧ m__law_file (cupD c) [.int 8] = .ok (.sh (.tuple (iL fs)), cupD c') := by
  obtain ⟨z, c1, hz, h1⟩ := some_l c [.int 2, .int 5, .int 30] (by simp) (by simp)
  obtain ⟨s, rfl, s1, s2⟩ : ∃ s : Int, z = .int s ∧ 2 ≤ s ∧ s ≤ 30 := by
    simp at hz
    rcases hz with rfl | rfl | rfl <;> exact ⟨_, rfl, by omega, by omega⟩
  obtain ⟨n, c2, h2, n0, n1⟩ := roll c1 8 (by omega) (by omega)
  obtain ⟨ds, e, h3, ⟨c3, rfl⟩, l3, p3⟩ := compL_inv (tg := gName 3) (ts := tYes) (el := fBin addD (fC (.int 1)) (fCallIO m__law_roll 0 [fName 2])) (own := [3])
    (I := fun e => ∃ c' : Cup, e = [some (.ow false (.lst (cupD c'))), some (.sh (.int 8)), some (.sh (.int s)), none]) (Pd := fun d => ∃ v : Int, d = .int v ∧ 1 ≤ v ∧ v ≤ 30) (rng 0 (1 + n).toNat) (by
      rintro a ha _ ⟨c', rfl⟩
      obtain ⟨r, c4, h4, r0, r1⟩ := roll c' s (by omega) (by omega)
      exact ⟨.int (1 + r), [some (.ow false (.lst (cupD c4))), some (.sh (.int 8)), some (.sh (.int s)), none], by simp [cs, h4], ⟨1 + r, rfl, by omega, by omega⟩, c4, rfl⟩)
    [some (.ow false (.lst (cupD c2))), some (.sh (.int 8)), some (.sh (.int s)), none] [] ⟨c2, rfl⟩
  have hw : ds.all (whole 1 30) = true := by
    rw [List.all_eq_true]; intro d hd
    obtain ⟨v, rfl, v1, v2⟩ := p3 d hd
    simp [whole, v1, v2]
  obtain ⟨fs, rfl, hf⟩ := whole_ints hw
  rw [iL_len, rng_len] at l3
  refine ⟨fs, c3, ⟨⟨by omega, by omega, hf⟩, by omega⟩, ?_⟩
  simp [m__law_file, v_runIO, b__law_file, h1, h2]
  rw [if_pos (by omega)]
  simp [h3]
/-! ### the rows paper -/
def lvl (f : List Int) (m : Int) : List Int := ((List.range f.length).filter fun k => decide (nth (lenS f f.length) k = m)).map fun (k : Nat) => (k : Int)
def toldR (f : List Int) : List (List Int) := (List.range (mst f).toNat).map fun (j : Nat) => lvl f ((j : Int) + 1)
theorem lvl_mem {f : List Int} {m x : Int} : x ∈ lvl f m ↔ ∃ k : Nat, k < f.length ∧ lg f k = m ∧ x = (k : Int) := by
  unfold lvl
  rw [List.mem_map]
  constructor
  · rintro ⟨k, hk, rfl⟩
    obtain ⟨h1, h2⟩ := List.mem_filter.mp hk
    have h1 := List.mem_range.mp h1
    rw [decide_eq_true_eq, lenS_nth h1] at h2
    exact ⟨k, h1, h2, rfl⟩
  · rintro ⟨k, h1, h2, rfl⟩
    exact ⟨k, List.mem_filter.mpr ⟨List.mem_range.mpr h1, by rw [decide_eq_true_eq, lenS_nth h1]; exact h2⟩, rfl⟩
theorem lvl_pw (f : List Int) (m : Int) : (lvl f m).Pairwise (· < ·) := by
  unfold lvl
  rw [List.pairwise_map]
  exact (List.pairwise_lt_range.filter _).imp fun h => by omega
theorem lvl_in (f : List Int) (m : Int) : InF f (lvl f m) := fun x hx => by
  obtain ⟨k, h1, _, rfl⟩ := lvl_mem.mp hx
  omega
theorem lvl_sub (f : List Int) (m : Int) : lvl f m ∈ subs f.length := subs_of (lvl_pw f m) (lvl_in f m)
theorem lvl_fall (f : List Int) (m : Int) : fallL (hts f (lvl f m)) = true := by
  rw [fallL_iff]
  have hh : (hts f (lvl f m)).length = (lvl f m).length := by simp [hts]
  intro k hk
  rw [hh] at hk
  rw [hts_nth (by omega), hts_nth (by omega)]
  obtain ⟨a, _, a2, ea⟩ := lvl_mem.mp (nth_mem (xs := lvl f m) (k := k) (by omega))
  obtain ⟨b, _, b2, eb⟩ := lvl_mem.mp (nth_mem (xs := lvl f m) (k := k + 1) (by omega))
  have h1 := pw_nth (lvl_pw f m) hk
  rw [ea, eb] at *
  have h1' : a < b := by omega
  rw [Int.toNat_natCast, Int.toNat_natCast]
  by_cases g : nth f a < nth f b
  · have := lg_step h1' g
    omega
  · omega
theorem told_len {f : List Int} (F : File f) : ((toldR f).length : Int) = mst f := by
  have := mst_bd (f := f) (by have := F.l1; omega)
  simp [toldR]; omega
theorem told_row {f r : List Int} (h : r ∈ toldR f) : ∃ m, r = lvl f m := by
  obtain ⟨j, _, rfl⟩ := List.mem_map.mp h
  exact ⟨_, rfl⟩
theorem told_rows {f : List Int} (F : File f) : ∀ r ∈ toldR f, r.length ≤ 10 := fun r hr => by
  obtain ⟨m, rfl⟩ := told_row hr
  have := subs_row (lvl_sub f m)
  have := F.l2
  omega
theorem mem_told {f : List Int} {x : Int} : x ∈ (toldR f).flatten ↔ ∃ k : Nat, k < f.length ∧ x = (k : Int) := by
  rw [List.mem_flatten]
  constructor
  · rintro ⟨r, hr, hx⟩
    obtain ⟨m, rfl⟩ := told_row hr
    obtain ⟨k, h1, _, e⟩ := lvl_mem.mp hx
    exact ⟨k, h1, e⟩
  · rintro ⟨k, hk, rfl⟩
    have h1 := lg_one f k
    have h2 : lg f k ≤ mst f := mx_le (by rw [lenS_eq]; exact List.mem_map.mpr ⟨k, List.mem_range.mpr hk, rfl⟩)
    exact ⟨lvl f (lg f k), List.mem_map.mpr ⟨(lg f k - 1).toNat, List.mem_range.mpr (by omega), by congr 1; omega⟩, lvl_mem.mpr ⟨k, hk, rfl, rfl⟩⟩
theorem told_nodup (f : List Int) : (toldR f).flatten.Nodup := by
  unfold List.Nodup
  rw [List.pairwise_flatten]
  refine ⟨fun r hr => ?_, ?_⟩
  · obtain ⟨m, rfl⟩ := told_row hr
    exact (lvl_pw f m).imp fun h => by omega
  · unfold toldR
    rw [List.pairwise_map]
    refine List.pairwise_lt_range.imp fun {a b} h => ?_
    intro x hx y hy hxy
    subst hxy
    obtain ⟨k, _, h1, e⟩ := lvl_mem.mp hx
    obtain ⟨k', _, h2, e'⟩ := lvl_mem.mp hy
    have : k = k' := by omega
    subst this
    omega
theorem range_ord (n : Nat) : (rangeI n).Pairwise (· < ·) := by
  unfold rangeI
  rw [List.pairwise_map]
  exact List.pairwise_lt_range.imp fun h => by omega
theorem told_sort (f : List Int) : sortI (toldR f).flatten = rangeI f.length := by
  refine ord_uniq ((sortI_perm _).trans (same_perm (told_nodup f) ((range_ord _).imp fun h => by omega) fun k => ?_)) (sortI_ord _) ((range_ord _).imp fun h => by omega)
  rw [mem_told]
  unfold rangeI
  rw [List.mem_map]
  constructor
  · rintro ⟨a, h, rfl⟩; exact ⟨a, List.mem_range.mpr h, rfl⟩
  · rintro ⟨a, h, rfl⟩; exact ⟨a, List.mem_range.mp h, rfl⟩
theorem told_paper {f : List Int} (F : File f) : paperL f (mst f) (toldR f) = true := by
  unfold paperL
  rw [told_len F, told_sort]
  simp
  intro r hr
  obtain ⟨m, rfl⟩ := told_row hr
  unfold goodR
  rw [lvl_fall, decide_eq_true (ded_rise.mpr (rise_pw.mpr (lvl_pw f m)))]
  rfl
theorem rows_eq {f : List Int} (F : File f) : m_rows_paper [.tuple (iL f)] = .ok (.sh (rowsD (toldR f))) := by
  have hne : lenS f f.length ≠ [] := fun z => by have := lenS_len f f.length; rw [z] at this; have := F.l1; simp at *; omega
  have h2 := F.l2
  have hb := mst_bd (f := f) (by have := F.l1; omega)
  have hx : mx (lenS f f.length) = mst f := rfl
  have hl := lenS_len f f.length
  simp [m_rows_paper, v_run, b_rows_paper, F.need, longest_eq F.l2, maxD_mx hne, hx]
  have rg : rgOk 1 (mst f + 1) = true := decide_eq_true ⟨by omega, by omega⟩
  try rw [if_pos (by omega)]
  have e1 : rng 1 (mst f).toNat = (List.range (mst f).toNat).map fun (j : Nat) => PyData.int ((j : Int) + 1) := by
    rw [rng_iL, iL, List.map_map]
    congr 1
    funext j
    show PyData.int (1 + (j : Int)) = _
    rw [Int.add_comm]
  have key := compL_map (tg := gName 2) (ts := PI.tYes) (el := fBi tupleD [fComp [3] (iRange1 (fBi lenD [fName 0])) (gName 3) (tVal (fBin PI.eqD (fBin ixD (fName 1) (fName 3)) (fName 2))) (fName 3)]) (own := [2]) (env := [some (.sh (.tuple (iL f))), some (.ow true (.lst (iL (lenS f f.length)))), none, none])
    (fun (j : Nat) => PyData.int ((j : Int) + 1)) (fun (j : Nat) => rowT (lvl f ((j : Int) + 1))) (List.range (mst f).toNat) fun j hj => by
      simp [cs]
      rw [if_pos (by omega)]
      simp
      rw [compL_rngF (fun k => decide (nth (lenS f f.length) k = (j : Int) + 1)) (fun k => .int (k : Int)) f.length fun k hk => by
        by_cases q : nth (lenS f f.length) k = (j : Int) + 1 <;> simp [cs, ixL (xs := lenS f f.length) (k := k) (by omega), q]]
      rw [iL_map]
      simp [rowT, lvl]
  rw [← e1] at key
  simp [key]
  simp [rowsD, toldR]
end Mir
set_option autoImplicit true
set_option Elab.async false
set_option linter.all false
set_option maxRecDepth 100000
namespace Mir
open PySem PI
/-! ### the law's turns -/
def LE (v0 v1 v2 v3 v4 v5 v6 v7 v8 v9 v10 v11 v12 v13 v14 v15 v16 v17 v18 : Option MV) : PI.Env := [v0, v1, v2, v3, v4, v5, v6, v7, v8, v9, v10, v11, v12, v13, v14, v15, v16, v17, v18]
def goodL (f : List Int) : List Val := (((subs f.length).filter fun s => riseL (hts f s)).map negV).mergeSort leV
theorem good_0 {f : List Int} (F : File f) {a : List Int} (ha : Who f a) : (goodL f)[0]? = some (negV a) := by
  have h0 : 0 < f.length := by have := F.l1; omega
  have hm : negV a ∈ goodL f := by
    unfold goodL
    rw [List.mem_mergeSort]
    exact List.mem_map.mpr ⟨a, List.mem_filter.mpr ⟨ha.sub, ha.ris⟩, rfl⟩
  cases h : goodL f with
  | nil => rw [h] at hm; cases hm
  | cons v r =>
    have : (goodL f)[0]? = some v := by rw [h]; rfl
    rw [good_who h0 this ha]
    rfl
theorem who_ex2 {f : List Int} (F : File f) : ∃ a, Who f a := by
  obtain ⟨a, ha⟩ := who_ex (f := f) (by have := F.l1; omega)
  exact ⟨a, who_of ha⟩
theorem pl_row {n : Nat} {r : List Int} (h : r.length ≤ 1000) : Pl (n + 1) (rowT r) := pl_iL (by omega)
section
variable {f : List Int} {c : Cup} {v0 v1 v2 v3 v4 v5 v6 v7 v8 v9 v10 v11 v12 v13 v14 v15 v16 v17 v18 : Option MV}
theorem s1_ok (c : Cup) : ∃ (f : List Int) (c' : Cup), (File f ∧ f.length ≤ 8) ∧ b_law_s1 (LE v0 (some (.ow true (.lst (cupD c)))) v2 v3 v4 v5 v6 v7 v8 v9 v10 v11 v12 v13 v14 v15 v16 v17 v18) = .ok (.nx (LE v0 (some (.ow true (.lst (cupD c')))) v2 (some (.sh (.tuple (iL f)))) v4 v5 v6 v7 v8 v9 v10 v11 v12 v13 v14 v15 v16 v17 v18)) := by
  obtain ⟨f, c', h1, h⟩ := file_run c
  refine ⟨f, c', h1, ?_⟩
  unfold LE
  simp [b_law_s1, h]
theorem s2_ok (F : File f) : b_law_s2 (LE v0 v1 v2 (some (.sh (.tuple (iL f)))) v4 v5 v6 v7 v8 v9 v10 v11 v12 v13 v14 v15 v16 v17 v18) = .ok (.nx (LE v0 v1 v2 (some (.sh (.tuple (iL f)))) (some (.sh (.int (f.length : Int)))) (some (.sh (.list ((subs f.length).map rowT)))) v6 v7 v8 v9 v10 v11 v12 v13 v14 v15 v16 v17 v18)) := by
  have h2 := F.l2
  have rg : rgOk 0 (f.length : Int) = true := decide_eq_true ⟨by omega, by omega⟩
  unfold LE
  simp [b_law_s2, rg, lsubs_eq F.l2]
theorem s3_ok (F : File f) : b_law_s3 (LE v0 v1 v2 (some (.sh (.tuple (iL f)))) v4 (some (.sh (.list ((subs f.length).map rowT)))) v6 v7 v8 v9 v10 v11 v12 v13 v14 v15 v16 v17 v18) = .ok (.nx (LE v0 v1 v2 (some (.sh (.tuple (iL f)))) v4 (some (.sh (.list ((subs f.length).map rowT)))) (some (.ow true (.lst ((goodL f).map valD)))) v7 (shOnly (some v8)) v9 v10 v11 v12 v13 v14 v15 v16 v17 v18)) := by
  unfold LE
  simp [b_law_s3]
  rw [compL_flt rowT (fun s => riseL (hts f s)) (fun s => valD (negV s)) (subs f.length) fun s hs => by
    have h1 := stay_eq (f := f) (s := s) (subs_in hs) (fun x hx => (F.all x hx).1) (by have := subs_row hs; have := F.l2; omega)
    cases g : riseL (hts f s) <;> (rw [g] at h1; simp [cs, rowT, h1, valD, negV])]
  have e := sortA_vals (((subs f.length).filter fun s => riseL (hts f s)).map negV)
  rw [List.map_map] at e
  have e2 : ((subs f.length).filter fun s => riseL (hts f s)).map (fun s => valD (negV s)) = ((subs f.length).filter fun s => riseL (hts f s)).map (valD ∘ negV) := rfl
  rw [e2]
  simp [e]
  rfl
theorem s4_ok (F : File f) : b_law_s4 (LE v0 v1 v2 v3 v4 v5 (some (.ow true (.lst ((goodL f).map valD)))) v7 v8 v9 v10 v11 v12 v13 v14 v15 v16 v17 v18) = .ok (.nx (LE v0 v1 v2 v3 v4 v5 (some (.ow true (.lst ((goodL f).map valD)))) (some (.sh (.int (mst f)))) v8 v9 v10 v11 v12 v13 v14 v15 v16 v17 v18)) := by
  obtain ⟨a, ha⟩ := who_ex2 F
  have i0 : ixD (.list ((goodL f).map valD)) (.int 0) = .ok (.sh (valD (negV a))) := ixD_l (atI_of (by omega) (by
    rw [show (0 : Int).toNat = 0 from rfl, List.getElem?_map, good_0 F ha]; rfl))
  have i1 : ixD (valD (negV a)) (.int 0) = .ok (.sh (.int (-(a.length : Int)))) := rfl
  have h := ha.len
  unfold LE
  simp [b_law_s4, i0, i1, h]
theorem s5_ok (F : File f) : b_law_s5 (LE v0 v1 v2 (some (.sh (.tuple (iL f)))) (some (.sh (.int (f.length : Int)))) v5 (some (.ow true (.lst ((goodL f).map valD)))) (some (.sh (.int (mst f)))) v8 v9 v10 v11 v12 v13 v14 v15 v16 v17 v18) = .ok (.nx (LE v0 v1 v2 (some (.sh (.tuple (iL f)))) (some (.sh (.int (f.length : Int)))) v5 (some (.ow true (.lst ((goodL f).map valD)))) (some (.sh (.int (mst f)))) v8 v9 v10 v11 v12 v13 v14 v15 v16 v17 v18)) := by
  obtain ⟨a, ha, e1⟩ := stays_eq F
  have i0 : ixD (.list ((goodL f).map valD)) (.int 0) = .ok (.sh (valD (negV a))) := ixD_l (atI_of (by omega) (by
    rw [show (0 : Int).toNat = 0 from rfl, List.getElem?_map, good_0 F ha]; rfl))
  have i1 : ixD (valD (negV a)) (.int 1) = .ok (.sh (rowT a)) := rfl
  have h := fewest_eq F
  have h2 := F.l2
  have hd := dedI_len_le f
  have l := subs_row ha.sub
  have s := same 5 (.tuple [rowT a, if (dedI f).length = f.length then .int (f.length - mst f) else .none]) (.tup (fun d hd => by
    simp only [List.mem_cons, List.not_mem_nil, or_false] at hd
    rcases hd with rfl | rfl
    · exact pl_row (by omega)
    · split
      · exact .int _
      · exact .non) (by simp))
  unfold LE
  by_cases q : (dedI f).length = f.length
  · rw [if_pos q] at s h
    simp [b_law_s5, i0, i1, e1, h, lenSetD_t (ns := f) (by omega), q, s]
  · rw [if_neg q] at s h
    have q' : ¬ (((dedI f).length : Int) = f.length) := by omega
    simp [b_law_s5, i0, i1, e1, h, lenSetD_t (ns := f) (by omega), q, q', s]
end
end Mir
set_option autoImplicit true
set_option Elab.async false
set_option linter.all false
set_option maxRecDepth 100000
namespace Mir
open PySem PI
theorem bl_same (b : Bool) : m__law_same 6 [.bool b, .bool b] = .ok (.sh (.bool true)) := same 5 _ (.bl b)
theorem cutL_last {α : Type} (xs : List α) : cutL xs (some (-1)) none = xs.drop (xs.length - 1) := by
  rcases List.eq_nil_or_concat xs with rfl | ⟨ys, y, rfl⟩
  · rfl
  · rw [List.concat_eq_append]
    have h : PI.bnd (ys ++ [y]).length 0 (some (-1)) = ys.length := by simp [PI.bnd]; omega
    have h2 : PI.bnd (ys ++ [y]).length (ys ++ [y]).length none = (ys ++ [y]).length := rfl
    unfold cutL
    rw [h, h2]
    simp
section
variable {f : List Int} {c : Cup} {v0 v1 v2 v3 v4 v5 v6 v7 v8 v9 v10 v11 v12 v13 v14 v15 v16 v17 v18 : Option MV}
theorem s6_ok (F : File f) {s : List Int} (hs : s ∈ subs f.length) : b_law_s6 (LE v0 v1 v2 (some (.sh (.tuple (iL f)))) v4 v5 v6 v7 (some (.sh (rowT s))) v9 v10 v11 v12 v13 v14 v15 v16 v17 v18) = .ok (.nx (LE v0 v1 v2 (some (.sh (.tuple (iL f)))) v4 v5 v6 v7 (some (.sh (rowT s))) v9 v10 v11 v12 v13 v14 v15 v16 v17 v18)) := by
  have h1 := are_eq F hs
  have h2 : m__law_stay [.tuple (iL f), rowT s] = .ok (.sh (.bool (riseL (hts f s)))) := stay_eq (subs_in hs) (fun x hx => (F.all x hx).1) (by have := subs_row hs; have := F.l2; omega)
  unfold LE
  simp [b_law_s6, h1, h2, bl_same]
theorem s7_ok (F : File f) (c : Cup) : ∃ (c' : Cup) (w8 w16 : Option MV), b_law_s7 (LE v0 (some (.ow true (.lst (cupD c)))) v2 (some (.sh (.tuple (iL f)))) v4 (some (.sh (.list ((subs f.length).map rowT)))) v6 v7 v8 v9 v10 v11 v12 v13 v14 v15 v16 v17 v18) = .ok (.nx (LE v0 (some (.ow true (.lst (cupD c')))) v2 (some (.sh (.tuple (iL f)))) v4 (some (.sh (.list ((subs f.length).map rowT)))) v6 v7 w8 v9 v10 v11 v12 v13 v14 v15 w16 v17 v18)) := by
  have hn : (subs f.length).map rowT ≠ [] := fun z => by
    have := congrArg List.length z
    rw [List.length_map, subs_len] at this
    have : 0 < 2 ^ f.length := Nat.pow_pos (by omega)
    simp at *
  have hl : ((subs f.length).map rowT).length < 1073741824 := by
    rw [List.length_map]
    have := subs_le F.l2
    omega
  obtain ⟨ds, e, h3, ⟨c3, rfl⟩, l3, p3⟩ := compL_inv (tg := gName 16) (ts := PI.tYes) (el := fCallIO m__law_some 1 [fName 5]) (own := [16]) (I := fun e => ∃ c' : Cup, e = LE v0 (some (.ow true (.lst (cupD c')))) v2 (some (.sh (.tuple (iL f)))) v4 (some (.sh (.list ((subs f.length).map rowT)))) v6 v7 v8 v9 v10 v11 v12 v13 v14 v15 none v17 v18) (Pd := fun d => ∃ s ∈ subs f.length, d = rowT s) (rng 0 5) (by
      rintro a ha _ ⟨c1, rfl⟩
      obtain ⟨x, c2, hx, h⟩ := some_l c1 _ hn hl
      obtain ⟨s, hs, rfl⟩ := List.mem_map.mp hx
      refine ⟨rowT s, LE v0 (some (.ow true (.lst (cupD c2)))) v2 (some (.sh (.tuple (iL f)))) v4 (some (.sh (.list ((subs f.length).map rowT)))) v6 v7 v8 v9 v10 v11 v12 v13 v14 v15 none v17 v18, ?_, ⟨s, hs, rfl⟩, c2, rfl⟩
      unfold LE
      simp [cs, h]) (LE v0 (some (.ow true (.lst (cupD c)))) v2 (some (.sh (.tuple (iL f)))) v4 (some (.sh (.list ((subs f.length).map rowT)))) v6 v7 v8 v9 v10 v11 v12 v13 v14 v15 none v17 v18) [] ⟨c, rfl⟩
  have key := forL_inv (tg := gName 8) (body := b_law_L1) (I := fun e => ∃ w8 : Option MV, e = LE v0 (some (.ow true (.lst (cupD c3)))) v2 (some (.sh (.tuple (iL f)))) v4 (some (.sh (.list ((subs f.length).map rowT)))) v6 v7 w8 v9 v10 v11 v12 v13 v14 v15 (shOnly (some v16)) v17 v18) ds (by
      rintro d hd e ⟨w8, rfl⟩
      obtain ⟨s, hs, rfl⟩ := p3 d hd
      exact ⟨LE v0 (some (.ow true (.lst (cupD c3)))) v2 (some (.sh (.tuple (iL f)))) v4 (some (.sh (.list ((subs f.length).map rowT)))) v6 v7 (some (.sh (rowT s))) v9 v10 v11 v12 v13 v14 v15 (shOnly (some v16)) v17 v18, rfl, NxP.one (s6_ok F hs) ⟨_, rfl⟩⟩) (LE v0 (some (.ow true (.lst (cupD c3)))) v2 (some (.sh (.tuple (iL f)))) v4 (some (.sh (.list ((subs f.length).map rowT)))) v6 v7 v8 v9 v10 v11 v12 v13 v14 v15 (shOnly (some v16)) v17 v18) ⟨v8, rfl⟩
  obtain ⟨e, h4, w8, rfl⟩ := key
  refine ⟨c3, w8, shOnly (some v16), ?_⟩
  rw [List.nil_append] at h3
  unfold LE at *
  simp [b_law_s7, h3, h4]
theorem st_ok (F : File f) : sSet 9 (fCall m_rows_paper [fName 3]) (LE v0 v1 v2 (some (.sh (.tuple (iL f)))) v4 v5 v6 v7 v8 v9 v10 v11 v12 v13 v14 v15 v16 v17 v18) = .ok (.nx (LE v0 v1 v2 (some (.sh (.tuple (iL f)))) v4 v5 v6 v7 v8 (some (.sh (rowsD (toldR f)))) v10 v11 v12 v13 v14 v15 v16 v17 v18)) := by
  unfold LE
  simp [rows_eq F]
theorem s8_ok (F : File f) : b_law_s8 (LE v0 v1 v2 (some (.sh (.tuple (iL f)))) v4 v5 v6 (some (.sh (.int (mst f)))) v8 (some (.sh (rowsD (toldR f)))) v10 v11 v12 v13 v14 v15 v16 v17 v18) = .ok (.nx (LE v0 v1 v2 (some (.sh (.tuple (iL f)))) v4 v5 v6 (some (.sh (.int (mst f)))) v8 (some (.sh (rowsD (toldR f)))) v10 v11 v12 v13 v14 v15 v16 v17 v18)) := by
  have h1 := law_paper_eq F (k := mst f) (rows := toldR f) (fun r hr => by have := told_rows F r hr; omega) (by have := told_len F; have := mst_bd (f := f) (by have := F.l1; omega); have := F.l2; omega)
  rw [told_paper F] at h1
  have h2 : lenD [rowsD (toldR f)] = .ok (.sh (.int (toldR f).length)) := by simp [rowsD]
  have h3 : isInst "tuple" (rowsD (toldR f)) = true := rfl
  unfold LE
  simp [b_law_s8, h1, h2, h3, told_len F]
theorem s9_ok (F : File f) (c : Cup) : ∃ (a : Nat) (c' : Cup), a < (toldR f).length ∧ b_law_s9 (LE v0 (some (.ow true (.lst (cupD c)))) v2 v3 v4 v5 v6 v7 v8 (some (.sh (rowsD (toldR f)))) v10 v11 v12 v13 v14 v15 v16 v17 v18) = .ok (.nx (LE v0 (some (.ow true (.lst (cupD c')))) v2 v3 v4 v5 v6 v7 v8 (some (.sh (rowsD (toldR f)))) (some (.sh (.int (a : Int)))) v11 v12 v13 v14 v15 v16 v17 v18)) := by
  have hb := mst_bd (f := f) (by have := F.l1; omega)
  have h2 : lenD [rowsD (toldR f)] = .ok (.sh (.int (mst f))) := by rw [← told_len F]; simp [rowsD]
  have := F.l2
  have hl := told_len F
  obtain ⟨r, c', h, r0, r1⟩ := roll c (mst f) (by omega) (by omega)
  refine ⟨r.toNat, c', by omega, ?_⟩
  have e : ((r.toNat : Nat) : Int) = r := by omega
  rw [e]
  unfold LE
  simp [b_law_s9, h2, h]
end
end Mir
set_option autoImplicit true
set_option Elab.async false
set_option linter.all false
set_option maxRecDepth 100000
namespace Mir
open PySem PI
theorem rows_cutF (rows : List (List Int)) (k : Nat) : cutD (rowsD rows) (some (k : Int)) none = .ok (.sh (rowsD (rows.drop k))) := by
  show R.ok (RV.sh (.tuple (cutL (rows.map rowT) (some (k : Int)) none))) = _
  rw [cutL_fromN, rowsD, List.map_drop]
theorem rows_cutF1 (rows : List (List Int)) (k : Nat) : cutD (rowsD rows) (some ((k : Int) + 1)) none = .ok (.sh (rowsD (rows.drop (k + 1)))) := by
  have := rows_cutF rows (k + 1)
  rwa [show (((k + 1 : Nat)) : Int) = (k : Int) + 1 by omega] at this
theorem rows_cutT (rows : List (List Int)) (k : Nat) : cutD (rowsD rows) none (some (k : Int)) = .ok (.sh (rowsD (rows.take k))) := by
  show R.ok (RV.sh (.tuple (cutL (rows.map rowT) none (some (k : Int))))) = _
  rw [cutL_toN, rowsD, List.map_take]
theorem row_cutF (r : List Int) (k : Nat) : cutD (rowT r) (some (k : Int)) none = .ok (.sh (rowT (r.drop k))) := by
  show R.ok (RV.sh (.tuple (cutL (iL r) (some (k : Int)) none))) = _
  rw [cutL_fromN, iL_drop]
  rfl
theorem row_cutL (r : List Int) : cutD (rowT r) (some (-1)) none = .ok (.sh (rowT (r.drop (r.length - 1)))) := by
  show R.ok (RV.sh (.tuple (cutL (iL r) (some (-1)) none))) = _
  rw [cutL_last, iL_drop, iL_len]
  rfl
theorem rows_rev (rows : List (List Int)) : revD (rowsD rows) = .ok (.sh (rowsD rows.reverse)) := by
  unfold rowsD
  rw [List.map_reverse]
  rfl
theorem rows_add {a b : List (List Int)} (h : a.length ≤ 1000) (h2 : b.length ≤ 1000) : addD (rowsD a) (rowsD b) = .ok (.sh (rowsD (a ++ b))) := by
  unfold rowsD
  rw [addD_tt (by simp; omega), List.map_append]
theorem rowD_add {a b : List Int} (h : a.length ≤ 1000) (h2 : b.length ≤ 1000) : addD (rowT a) (rowT b) = .ok (.sh (rowT (a ++ b))) := by
  unfold rowT
  rw [addD_tt (by simp; omega), iL_app]
theorem rows_ix {rows : List (List Int)} {k : Nat} (h : k < rows.length) : ixD (rowsD rows) (.int (k : Int)) = .ok (.sh (rowT (rows.getD k []))) := ixD_t (atI_of (by omega) (by
  rw [Int.toNat_natCast, List.getElem?_map, List.getD_eq_getElem?_getD, List.getElem?_eq_getElem h]
  rfl))
theorem one_rows (r : List Int) : PyData.tuple [rowT r] = rowsD [r] := rfl
/-- papers that can be looked at -/
def VOk (V : List (List (List Int))) : Prop := ∀ rows ∈ V, rows.length ≤ 100 ∧ ∀ r ∈ rows, r.length ≤ 50
theorem VOk.app {V W : List (List (List Int))} (h : VOk V) (g : VOk W) : VOk (V ++ W) := fun rows hr => by
  rcases List.mem_append.mp hr with hr | hr
  · exact h rows hr
  · exact g rows hr
structure TOk (f : List Int) : Prop where
  len : (toldR f).length ≤ 10
  row : ∀ r ∈ toldR f, r.length ≤ 10
theorem tok {f : List Int} (F : File f) : TOk f := ⟨by have := told_len F; have := mst_bd (f := f) (by have := F.l1; omega); have := F.l2; omega, told_rows F⟩
def V1 (T : List (List Int)) : List (List (List Int)) := [T, T.reverse, T.drop 1, T ++ [[]]]
def V2 (T : List (List Int)) (a n : Nat) : List (List (List Int)) := [T.take a ++ [(T.getD a []).drop 1] ++ T.drop (a + 1), T.take a ++ [T.getD a [] ++ (T.getD a []).drop ((T.getD a []).length - 1)] ++ T.drop (a + 1), (List.range n).map fun (k : Nat) => [(k : Int)], [rangeI n]]
def V3 (T : List (List Int)) : List (List (List Int)) := if 1 < T.length then [[sortI (T.getD 0 [] ++ T.getD 1 [])] ++ T.drop 2] else []
theorem getD_row {T : List (List Int)} (h : ∀ r ∈ T, r.length ≤ 10) (a : Nat) : (T.getD a []).length ≤ 10 := by
  rw [List.getD_eq_getElem?_getD]
  cases e : T[a]? with
  | none => simp
  | some r => exact h r (List.mem_of_getElem? e)
theorem V1_ok {T : List (List Int)} (hl : T.length ≤ 10) (h : ∀ r ∈ T, r.length ≤ 10) : VOk (V1 T) := by
  intro rows hr
  simp only [V1, List.mem_cons, List.not_mem_nil, or_false] at hr
  rcases hr with rfl | rfl | rfl | rfl
  · exact ⟨by omega, fun r hr => by have := h r hr; omega⟩
  · exact ⟨by simp; omega, fun r hr => by have := h r (List.mem_reverse.mp hr); omega⟩
  · exact ⟨by simp; omega, fun r hr => by have := h r (List.mem_of_mem_drop hr); omega⟩
  · refine ⟨by simp; omega, fun r hr => ?_⟩
    rcases List.mem_append.mp hr with hr | hr
    · have := h r hr; omega
    · simp at hr; subst hr; simp
theorem mid_ok {T : List (List Int)} (hl : T.length ≤ 10) (h : ∀ r ∈ T, r.length ≤ 10) {a : Nat} {z : List Int} (hz : z.length ≤ 20) : (T.take a ++ [z] ++ T.drop (a + 1)).length ≤ 100 ∧ ∀ r ∈ T.take a ++ [z] ++ T.drop (a + 1), r.length ≤ 50 := by
  refine ⟨by simp; omega, fun r hr => ?_⟩
  rcases List.mem_append.mp hr with hr | hr
  · rcases List.mem_append.mp hr with hr | hr
    · have := h r (List.mem_of_mem_take hr); omega
    · simp at hr; subst hr; omega
  · have := h r (List.mem_of_mem_drop hr); omega
theorem V2_ok {T : List (List Int)} (hl : T.length ≤ 10) (h : ∀ r ∈ T, r.length ≤ 10) (a : Nat) {n : Nat} (hn : n ≤ 10) : VOk (V2 T a n) := by
  intro rows hr
  have g := getD_row h a
  simp only [V2, List.mem_cons, List.not_mem_nil, or_false] at hr
  rcases hr with rfl | rfl | rfl | rfl
  · exact mid_ok hl h (by rw [List.length_drop]; omega)
  · exact mid_ok hl h (by rw [List.length_append, List.length_drop]; omega)
  · refine ⟨by simp; omega, fun r hr => ?_⟩
    obtain ⟨k, _, rfl⟩ := List.mem_map.mp hr
    simp
  · refine ⟨by simp, fun r hr => ?_⟩
    simp at hr; subst hr; simp [rangeI]; omega
theorem V3_ok {T : List (List Int)} (hl : T.length ≤ 10) (h : ∀ r ∈ T, r.length ≤ 10) : VOk (V3 T) := by
  intro rows hr
  unfold V3 at hr
  split at hr
  · simp only [List.mem_cons, List.not_mem_nil, or_false] at hr
    subst hr
    have := getD_row h 0
    have := getD_row h 1
    refine ⟨by simp; omega, fun r hr => ?_⟩
    rcases List.mem_append.mp hr with hr | hr
    · simp only [List.mem_cons, List.not_mem_nil, or_false] at hr
      subst hr
      rw [(sortI_perm _).length_eq, List.length_append]; omega
    · have := h r (List.mem_of_mem_drop hr); omega
  · cases hr
section
variable {f : List Int} {c : Cup} {v0 v1 v2 v3 v4 v5 v6 v7 v8 v9 v10 v11 v12 v13 v14 v15 v16 v17 v18 : Option MV}
theorem s10_ok (F : File f) : b_law_s10 (LE v0 v1 v2 v3 v4 v5 v6 v7 v8 (some (.sh (rowsD (toldR f)))) v10 v11 v12 v13 v14 v15 v16 v17 v18) = .ok (.nx (LE v0 v1 v2 v3 v4 v5 v6 v7 v8 (some (.sh (rowsD (toldR f)))) v10 (some (.ow true (.lst ((V1 (toldR f)).map rowsD)))) v12 v13 v14 v15 v16 v17 v18)) := by
  have t := tok F
  have h1 : cutD (rowsD (toldR f)) (some 1) none = .ok (.sh (rowsD ((toldR f).drop 1))) := rows_cutF (toldR f) 1
  have h2 := rows_add (a := toldR f) (b := [[]]) (by have := t.len; omega) (by simp)
  have e : rowsD [[]] = .tuple [.tuple []] := rfl
  rw [e] at h2
  unfold LE
  generalize toldR f = T at *
  simp [b_law_s10, h1, rows_rev, h2, V1, -List.drop_one]
theorem s11_ok (F : File f) {a : Nat} (ha : a < (toldR f).length) : b_law_s11 (LE v0 v1 v2 v3 (some (.sh (.int (f.length : Int)))) v5 v6 v7 v8 (some (.sh (rowsD (toldR f)))) (some (.sh (.int (a : Int)))) (some (.ow true (.lst ((V1 (toldR f)).map rowsD)))) v12 v13 v14 v15 v16 v17 v18) = .ok (.nx (LE v0 v1 v2 v3 (some (.sh (.int (f.length : Int)))) v5 v6 v7 v8 (some (.sh (rowsD (toldR f)))) (some (.sh (.int (a : Int)))) (some (.ow true (.lst ((V1 (toldR f) ++ V2 (toldR f) a f.length).map rowsD)))) v12 v13 v14 v15 v16 (shOnly (some v17)) v18)) := by
  have t := tok F
  have hn := F.l2
  have tl := t.len
  have g := getD_row t.row a
  have x := rows_ix ha
  have c1 := rows_cutT (toldR f) a
  have c2 := rows_cutF1 (toldR f) a
  have r1 : cutD (rowT ((toldR f).getD a [])) (some 1) none = .ok (.sh (rowT (((toldR f).getD a []).drop 1))) := row_cutF ((toldR f).getD a []) 1
  have r2 := row_cutL ((toldR f).getD a [])
  have l1 : ((toldR f).take a).length ≤ 10 := by simp; omega
  have l2 : ((toldR f).drop (a + 1)).length ≤ 10 := by simp; omega
  have rg : rgOk 0 (f.length : Int) = true := decide_eq_true ⟨by omega, by omega⟩
  have sg := compL_rng (tg := gName 17) (ts := PI.tYes) (el := fTup [fName 17]) (own := [17]) (env := LE v0 v1 v2 v3 (some (.sh (.int (f.length : Int)))) v5 v6 v7 v8 (some (.sh (rowsD (toldR f)))) (some (.sh (.int (a : Int)))) (some (.ow true (.lst ((V1 (toldR f)).map rowsD)))) v12 v13 v14 v15 v16 none v18) (fun k => rowT [(k : Int)]) f.length fun k hk => by
    unfold LE
    simp [cs, rowT, iL]
  rw [rng_range] at sg
  have sgE : rowsD ((List.range f.length).map fun (k : Nat) => [(k : Int)]) = .tuple ((List.range f.length).map fun (k : Nat) => rowT [(k : Int)]) := by
    unfold rowsD
    rw [List.map_map]
    rfl
  unfold V2
  generalize (toldR f).take a = T1 at *
  generalize (toldR f).drop (a + 1) = T2 at *
  generalize (toldR f).getD a [] = r at *
  generalize toldR f = T at *
  unfold LE at *
  simp [b_law_s11, x, c1, c2, r1, r2, -List.drop_one, one_rows, rows_add (a := T1) (b := [r.drop 1]) (by omega) (by simp), rows_add (a := T1 ++ [r.drop 1]) (b := T2) (by simp; omega) (by omega),
    rowD_add (a := r) (b := r.drop (r.length - 1)) (by omega) (by simp; omega), rows_add (a := T1) (b := [r ++ r.drop (r.length - 1)]) (by omega) (by simp), rows_add (a := T1 ++ [r ++ r.drop (r.length - 1)]) (b := T2) (by simp; omega) (by omega), rg]
  rw [if_pos (by omega)]
  simp [sg, rg, rng_range, show PyData.tuple (iL (rangeI f.length)) = rowT (rangeI f.length) from rfl, one_rows, -List.drop_one]
  rw [addD_ll (by simp [V1])]
  simp [sgE, -List.drop_one]
theorem s13_ok (F : File f) {W : List (List (List Int))} (hW : W.length ≤ 100) : b_law_s13 (LE v0 v1 v2 v3 v4 v5 v6 (some (.sh (.int (mst f)))) v8 (some (.sh (rowsD (toldR f)))) v10 (some (.ow true (.lst ((W).map rowsD)))) v12 v13 v14 v15 v16 v17 v18) = .ok (.nx (LE v0 v1 v2 v3 v4 v5 v6 (some (.sh (.int (mst f)))) v8 (some (.sh (rowsD (toldR f)))) v10 (some (.ow true (.lst ((W ++ V3 (toldR f)).map rowsD)))) v12 v13 v14 v15 v16 v17 v18)) := by
  have t := tok F
  have tl := t.len
  have hl := told_len F
  unfold V3
  by_cases q : 1 < (toldR f).length
  · have q' : (1 : Int) < mst f := by omega
    have x0 := rows_ix (rows := toldR f) (k := 0) (by omega)
    have x1 := rows_ix (rows := toldR f) (k := 1) (by omega)
    have g0 := getD_row t.row 0
    have g1 := getD_row t.row 1
    have c2 := rows_cutF (toldR f) 2
    have l2 : ((toldR f).drop 2).length ≤ 10 := by simp; omega
    rw [if_pos q]
    generalize (toldR f).getD 0 [] = r0 at *
    generalize (toldR f).getD 1 [] = r1 at *
    generalize (toldR f).drop 2 = T2 at *
    generalize toldR f = T at *
    have s := sortAT_iL (r0 ++ r1)
    have e : rowT (r0 ++ r1) = .tuple (iL (r0 ++ r1)) := rfl
    rw [← e] at s
    have e2 : tupleD [.list (iL (sortI (r0 ++ r1)))] = .ok (.sh (rowT (sortI (r0 ++ r1)))) := rfl
    have x0' : ixD (rowsD T) (.int 0) = .ok (.sh (rowT r0)) := x0
    have x1' : ixD (rowsD T) (.int 1) = .ok (.sh (rowT r1)) := x1
    have c2' : cutD (rowsD T) (some 2) none = .ok (.sh (rowsD T2)) := c2
    unfold LE
    simp [b_law_s13, b_law_s12, q', x0', x1', c2', rowD_add (a := r0) (b := r1) (by omega) (by omega), s, e2, one_rows, rows_add (a := [sortI (r0 ++ r1)]) (b := T2) (by simp) (by omega)]
    omega
  · have q' : ¬ (1 : Int) < mst f := by omega
    rw [if_neg q]
    unfold LE
    simp [b_law_s13, q']
end
end Mir
set_option autoImplicit true
set_option Elab.async false
set_option linter.all false
set_option maxRecDepth 100000
namespace Mir
open PySem PI
theorem cutL_init {α : Type} (xs : List α) (x : α) : cutL (xs ++ [x]) none (some (-1)) = xs := by
  unfold cutL
  have h1 : PI.bnd (xs ++ [x]).length 0 none = 0 := rfl
  have h2 : PI.bnd (xs ++ [x]).length (xs ++ [x]).length (some (-1)) = xs.length := by
    unfold PI.bnd
    simp only [List.length_append, List.length_cons, List.length_nil]
    split <;> (first | omega | (rw [if_neg (by omega)]; omega) | skip)
  rw [h1, h2]
  simp
theorem is_paper_bad {f : List Int} (F : File f) {d : D} (h : tupOf 0 10 d = false ∨ (items d).all (fitsB f.length) = false) : m_is_rows_paper [.tuple (iL f), .int 10, d] = .ok (.sh (.bool false)) := by
  have w : whole 0 10 (.int 10) = true := rfl
  simp [m_is_rows_paper, v_run, b_is_rows_paper, F.need, is_whole_eq, w, is_tuple_eq]
  cases t : tupOf 0 10 d with
  | false => simp
  | true =>
    cases d with
    | tuple ds =>
      have h : ds.all (fitsB f.length) = false := by
        rcases h with h | h
        · rw [t] at h; cases h
        · exact h
      have g := allD_map (fitsB f.length) ds
      rw [h] at g
      simp
      rw [compL_mapD (fun a => .bool (fitsB f.length a)) ds fun a _ => by simp [cs, fits_eq]]
      simp [g]
    | _ => simp [tupOf] at t
/-- data in the place of a row -/
def badR (n : Nat) (r : List Int) : List D := [.none, .list (iL r), .tuple [.int n], .tuple [.int (-1)], .tuple [.bool true], .int 0]
theorem badR_fit {n : Nat} {r : List Int} {d : D} (h : d ∈ badR n r) : fitsB n d = false := by
  simp only [badR, List.mem_cons, List.not_mem_nil, or_false] at h
  rcases h with rfl | rfl | rfl | rfl | rfl | rfl
  · rfl
  · rfl
  · simp [fitsB, items, whole]
    intro _ h
    omega
  · simp [fitsB, items, whole]
  · simp [fitsB, items, whole]
  · rfl
def O1 (n : Nat) (T : List (List Int)) (r : List Int) : List D := [.none, .list ((T ++ [r]).map rowT)] ++ (badR n r).map (fun d => .tuple (T.map rowT ++ [d])) ++ [.int 5]
theorem O1_bad {f : List Int} (F : File f) {T : List (List Int)} {r : List Int} : ∀ d ∈ O1 f.length T r, m_is_rows_paper [.tuple (iL f), .int 10, d] = .ok (.sh (.bool false)) := by
  intro d hd
  refine is_paper_bad F ?_
  rcases List.mem_append.mp hd with hd | hd
  · rcases List.mem_append.mp hd with hd | hd
    · simp only [List.mem_cons, List.not_mem_nil, or_false] at hd
      rcases hd with rfl | rfl
      · exact .inl rfl
      · exact .inl rfl
    · obtain ⟨e, he, rfl⟩ := List.mem_map.mp hd
      refine .inr ?_
      show (T.map rowT ++ [e]).all (fitsB f.length) = false
      rw [List.all_append]
      simp [badR_fit he]
  · simp only [List.mem_cons, List.not_mem_nil, or_false] at hd
    subst hd
    exact .inl rfl
def O2 (n : Nat) : List D := [.none, .list [.int 0], .tuple [.int 0, .int 0], .tuple [.int n], .tuple [.int (-1)], .tuple [.bool false], .tuple [.str "0"], .int 5] ++ (if 1 < n then [.tuple [.int 1, .int 0]] else [])
theorem O2_bad {n : Nat} : ∀ d ∈ O2 n, fitsB n d = false := by
  intro d hd
  have r1 : riseL (numsL [.int 0, .int 0]) = false := by decide
  have r2 : riseL (numsL [.int 1, .int 0]) = false := by decide
  unfold O2 at hd
  rcases List.mem_append.mp hd with hd | hd
  · simp only [List.mem_cons, List.not_mem_nil, or_false] at hd
    rcases hd with rfl | rfl | rfl | rfl | rfl | rfl | rfl | rfl
    · rfl
    · rfl
    · simp [fitsB, items, r1]
    · simp [fitsB, items, whole]
      intro _ h
      omega
    · simp [fitsB, items, whole]
    · simp [fitsB, items, whole]
    · simp [fitsB, items, whole]
    · rfl
  · split at hd
    · simp only [List.mem_cons, List.not_mem_nil, or_false] at hd
      subst hd
      simp [fitsB, items, r2]
    · cases hd
section
variable {f : List Int} {c : Cup} {v0 v1 v2 v3 v4 v5 v6 v7 v8 v9 v10 v11 v12 v13 v14 v15 v16 v17 v18 : Option MV}
theorem s14_ok (F : File f) {k : Int} (hk : 0 ≤ k) (hk2 : k ≤ 10) {rows : List (List Int)} (h : ∀ r ∈ rows, r.length ≤ 50) (hl : rows.length ≤ 1000) : b_law_s14 (LE v0 v1 v2 (some (.sh (.tuple (iL f)))) v4 v5 v6 v7 v8 v9 v10 v11 (some (.sh (rowsD rows))) (some (.sh (.int k))) v14 v15 v16 v17 v18) = .ok (.nx (LE v0 v1 v2 (some (.sh (.tuple (iL f)))) v4 v5 v6 v7 v8 v9 v10 v11 (some (.sh (rowsD rows))) (some (.sh (.int k))) v14 v15 v16 v17 v18)) := by
  have h1 := is_paper_eq F hk hk2 h hl
  have h2 := law_paper_eq F (k := k) h hl
  rw [paper_same] at h1
  unfold LE
  simp [b_law_s14, h1, h2, bl_same]
theorem s15_ok (F : File f) (h8 : f.length ≤ 8) {rows : List (List Int)} (h : ∀ r ∈ rows, r.length ≤ 50) (hl : rows.length ≤ 1000) : NxP (b_law_s15 (LE v0 v1 v2 (some (.sh (.tuple (iL f)))) (some (.sh (.int (f.length : Int)))) v5 v6 (some (.sh (.int (mst f)))) v8 v9 v10 v11 (some (.sh (rowsD rows))) v13 v14 v15 v16 v17 v18)) fun e => ∃ w13 : Option MV, e = LE v0 v1 v2 (some (.sh (.tuple (iL f)))) (some (.sh (.int (f.length : Int)))) v5 v6 (some (.sh (.int (mst f)))) v8 v9 v10 v11 (some (.sh (rowsD rows))) w13 v14 v15 v16 v17 v18 := by
  have hb := mst_bd (f := f) (by have := F.l1; omega)
  have key := forL_inv (tg := gName 13) (body := b_law_L2) (I := fun e => ∃ w13 : Option MV, e = LE v0 v1 v2 (some (.sh (.tuple (iL f)))) (some (.sh (.int (f.length : Int)))) v5 v6 (some (.sh (.int (mst f)))) v8 v9 v10 v11 (some (.sh (rowsD rows))) w13 v14 v15 v16 v17 v18) [.int (mst f), .int (mst f - 1), .int (mst f + 1), .int (f.length : Int)] (by
      rintro d hd e ⟨w13, rfl⟩
      obtain ⟨k, rfl, k0, k1⟩ : ∃ k : Int, d = .int k ∧ 0 ≤ k ∧ k ≤ 10 := by
        simp only [List.mem_cons, List.not_mem_nil, or_false] at hd
        rcases hd with rfl | rfl | rfl | rfl <;> exact ⟨_, rfl, by omega, by omega⟩
      exact ⟨LE v0 v1 v2 (some (.sh (.tuple (iL f)))) (some (.sh (.int (f.length : Int)))) v5 v6 (some (.sh (.int (mst f)))) v8 v9 v10 v11 (some (.sh (rowsD rows))) (some (.sh (.int k))) v14 v15 v16 v17 v18, rfl, NxP.one (s14_ok F k0 k1 h hl) ⟨_, rfl⟩⟩) (LE v0 v1 v2 (some (.sh (.tuple (iL f)))) (some (.sh (.int (f.length : Int)))) v5 v6 (some (.sh (.int (mst f)))) v8 v9 v10 v11 (some (.sh (rowsD rows))) v13 v14 v15 v16 v17 v18) ⟨v13, rfl⟩
  obtain ⟨e, h4, w13, rfl⟩ := key
  refine NxP.one (e := LE v0 v1 v2 (some (.sh (.tuple (iL f)))) (some (.sh (.int (f.length : Int)))) v5 v6 (some (.sh (.int (mst f)))) v8 v9 v10 v11 (some (.sh (rowsD rows))) w13 v14 v15 v16 v17 v18) ?_ ⟨_, rfl⟩
  unfold LE at *
  simp [b_law_s15, h4]
theorem s16_ok (F : File f) (h8 : f.length ≤ 8) {V : List (List (List Int))} (hV : VOk V) : NxP (b_law_s16 (LE v0 v1 v2 (some (.sh (.tuple (iL f)))) (some (.sh (.int (f.length : Int)))) v5 v6 (some (.sh (.int (mst f)))) v8 v9 v10 (some (.ow true (.lst ((V).map rowsD)))) v12 v13 v14 v15 v16 v17 v18)) fun e => ∃ w12 w13 : Option MV, e = LE v0 v1 v2 (some (.sh (.tuple (iL f)))) (some (.sh (.int (f.length : Int)))) v5 v6 (some (.sh (.int (mst f)))) v8 v9 v10 (some (.sh (.list ((V).map rowsD)))) w12 w13 v14 v15 v16 v17 v18 := by
  have key := forL_inv (tg := gName 12) (body := b_law_L3) (I := fun e => ∃ w12 w13 : Option MV, e = LE v0 v1 v2 (some (.sh (.tuple (iL f)))) (some (.sh (.int (f.length : Int)))) v5 v6 (some (.sh (.int (mst f)))) v8 v9 v10 (some (.sh (.list ((V).map rowsD)))) w12 w13 v14 v15 v16 v17 v18) (V.map rowsD) (by
      rintro d hd e ⟨w12, w13, rfl⟩
      obtain ⟨rows, hr, rfl⟩ := List.mem_map.mp hd
      obtain ⟨a, b⟩ := hV rows hr
      exact ⟨LE v0 v1 v2 (some (.sh (.tuple (iL f)))) (some (.sh (.int (f.length : Int)))) v5 v6 (some (.sh (.int (mst f)))) v8 v9 v10 (some (.sh (.list ((V).map rowsD)))) (some (.sh (rowsD rows))) w13 v14 v15 v16 v17 v18, rfl, (s15_ok F h8 b (by omega)).mono fun e ⟨w, hw⟩ => ⟨_, w, hw⟩⟩) (LE v0 v1 v2 (some (.sh (.tuple (iL f)))) (some (.sh (.int (f.length : Int)))) v5 v6 (some (.sh (.int (mst f)))) v8 v9 v10 (some (.sh (.list ((V).map rowsD)))) v12 v13 v14 v15 v16 v17 v18) ⟨v12, v13, rfl⟩
  obtain ⟨e, h4, w12, w13, rfl⟩ := key
  refine NxP.one (e := LE v0 v1 v2 (some (.sh (.tuple (iL f)))) (some (.sh (.int (f.length : Int)))) v5 v6 (some (.sh (.int (mst f)))) v8 v9 v10 (some (.sh (.list ((V).map rowsD)))) w12 w13 v14 v15 v16 v17 v18) ?_ ⟨_, _, rfl⟩
  unfold LE at *
  simp [b_law_s16, h4]
theorem s17_ok {n : Nat} {T : List (List Int)} {r : List Int} (hT : T.length ≤ 100) : b_law_s17 (LE v0 v1 v2 v3 (some (.sh (.int (n : Int)))) v5 v6 v7 v8 (some (.sh (rowsD (T ++ [r])))) v10 v11 v12 v13 v14 v15 v16 v17 v18) = .ok (.nx (LE v0 v1 v2 v3 (some (.sh (.int (n : Int)))) v5 v6 v7 v8 (some (.sh (rowsD (T ++ [r])))) v10 v11 v12 v13 (some (.ow true (.lst (O1 n T r)))) v15 v16 v17 v18)) := by
  have c1 : cutD (rowsD (T ++ [r])) none (some (-1)) = .ok (.sh (rowsD T)) := by
    show R.ok (RV.sh (.tuple (cutL ((T ++ [r]).map rowT) none (some (-1))))) = _
    rw [List.map_append, List.map_singleton, cutL_init]
    rfl
  have i1 : ixD (rowsD (T ++ [r])) (.int (-1)) = .ok (.sh (rowT r)) := by
    refine ixD_t ?_
    rw [List.map_append, List.map_singleton]
    exact atI_last
  have l1 : listD [rowsD (T ++ [r])] = .ok (.fr (.lst ((T ++ [r]).map rowT))) := rfl
  have l2 : listD [rowT r] = .ok (.fr (.lst (iL r))) := rfl
  have a1 : ∀ d : D, addD (rowsD T) (.tuple [d]) = .ok (.sh (.tuple (T.map rowT ++ [d]))) := fun d => by
    unfold rowsD
    rw [addD_tt (by simp; omega)]
  unfold LE O1 badR
  generalize rowsD (T ++ [r]) = z at *
  simp [b_law_s17, c1, i1, l1, l2, a1]
theorem s18_ok (F : File f) {O : List D} (hO : ∀ d ∈ O, m_is_rows_paper [.tuple (iL f), .int 10, d] = .ok (.sh (.bool false))) : b_law_s18 (LE v0 v1 v2 (some (.sh (.tuple (iL f)))) v4 v5 v6 v7 v8 v9 v10 v11 v12 v13 (some (.ow true (.lst (O)))) v15 v16 v17 v18) = .ok (.nx (LE v0 v1 v2 (some (.sh (.tuple (iL f)))) v4 v5 v6 v7 v8 v9 v10 v11 v12 v13 (some (.sh (.list (O)))) v15 v16 v17 (shOnly (some v18)))) := by
  have key := compL_none (tg := gName 18) (ts := tVal (fBin isNotD (fCall m_is_rows_paper [fName 3, fC (.int 10), fName 18]) (fC (.bool false)))) (el := fName 18) (own := [18]) (env := LE v0 v1 v2 (some (.sh (.tuple (iL f)))) v4 v5 v6 v7 v8 v9 v10 v11 v12 v13 (some (.sh (.list (O)))) v15 v16 v17 none) O fun d hd => by
    unfold LE
    simp [cs, hO d hd]
  unfold LE at *
  simp [b_law_s18, key]
theorem s19_ok {n : Nat} : b_law_s19 (LE v0 v1 v2 v3 (some (.sh (.int (n : Int)))) v5 v6 v7 v8 v9 v10 v11 v12 v13 v14 v15 v16 v17 v18) = .ok (.nx (LE v0 v1 v2 v3 (some (.sh (.int (n : Int)))) v5 v6 v7 v8 v9 v10 v11 v12 v13 (some (.ow true (.lst (O2 n)))) v15 v16 v17 v18)) := by
  unfold LE O2
  by_cases q : 1 < n
  · have q' : (1 : Int) < n := by omega
    rw [if_pos q]
    simp [b_law_s19, q']
    rw [addD_ll (by simp)]
    simp
  · have q' : ¬ (1 : Int) < n := by omega
    rw [if_neg q]
    simp [b_law_s19, q']
    rw [addD_ll (by simp)]
    simp
theorem s20_ok (F : File f) : b_law_s20 (LE v0 v1 v2 (some (.sh (.tuple (iL f)))) v4 v5 v6 v7 v8 v9 v10 v11 v12 v13 (some (.ow true (.lst (O2 f.length)))) v15 v16 v17 v18) = .ok (.nx (LE v0 v1 v2 (some (.sh (.tuple (iL f)))) v4 v5 v6 v7 v8 v9 v10 v11 v12 v13 (some (.sh (.list (O2 f.length)))) v15 v16 v17 (shOnly (some v18)))) := by
  have hO : ∀ d ∈ O2 f.length, m_are_staying [.tuple (iL f), d] = .ok (.sh (.bool false)) := fun d hd => are_bad F (O2_bad d hd)
  generalize O2 f.length = O at *
  have key := compL_none (tg := gName 18) (ts := tVal (fBin isNotD (fCall m_are_staying [fName 3, fName 18]) (fC (.bool false)))) (el := fName 18) (own := [18]) (env := LE v0 v1 v2 (some (.sh (.tuple (iL f)))) v4 v5 v6 v7 v8 v9 v10 v11 v12 v13 (some (.sh (.list (O)))) v15 v16 v17 none) O fun d hd => by
    unfold LE
    simp [cs, hO d hd]
  unfold LE at *
  simp [b_law_s20, key]
end
end Mir
set_option autoImplicit true
set_option Elab.async false
set_option linter.all false
set_option maxRecDepth 100000
namespace Mir
open PySem PI
/-! ### the end -/
def dn (n : Nat) : List Int := dnI ((n : Int) + 3) n
theorem dn_facts : ∀ k : Fin 10, mst (dn (k.val + 1)) = 1 ∧ toldR (dn (k.val + 1)) = [rangeI (k.val + 1)] ∧ mst (dn (k.val + 1)).reverse = ((k.val + 1 : Nat) : Int) ∧ (dedI (dn (k.val + 1))).length = k.val + 1 ∧ (dedI (dn (k.val + 1)).reverse).length = k.val + 1 := by decide +kernel
theorem dn_len (n : Nat) : (dn n).length = n := by simp [dn, dnI]
theorem dn_file {n : Nat} (h : 1 ≤ n) (h2 : n ≤ 10) : File (dn n) := ⟨by rw [dn_len]; exact h, by rw [dn_len]; exact h2, fun x hx => by
  obtain ⟨k, hk, rfl⟩ := List.mem_map.mp hx
  have := List.mem_range.mp hk
  omega⟩
theorem dn_rev {n : Nat} (h : 1 ≤ n) (h2 : n ≤ 10) : File (dn n).reverse := ⟨by rw [List.length_reverse]; exact (dn_file h h2).l1, by rw [List.length_reverse]; exact (dn_file h h2).l2, fun x hx => (dn_file h h2).all x (List.mem_reverse.mp hx)⟩
theorem subs_full : ∀ {n : Nat} {s : List Int}, s ∈ subs n → s.length = n → s = rangeI n
  | 0, s, h, g => by
    have : s = [] := List.length_eq_zero_iff.mp g
    subst this; rfl
  | n + 1, s, h, g => by
    rcases List.mem_append.mp h with h | h
    · have := subs_row h; omega
    · obtain ⟨t, ht, rfl⟩ := List.mem_map.mp h
      have := subs_full ht (by simpa using g)
      subst this
      simp [rangeI, List.range_succ]
theorem who_first {f a : List Int} (h : Who f a) (h0 : 0 < f.length) (hm : mst f = 1) : a = [0] := by
  have hl := h.len
  rw [hm] at hl
  obtain ⟨x, rfl⟩ : ∃ x, a = [x] := by
    cases a with
    | nil => simp at hl
    | cons x r =>
      cases r with
      | nil => exact ⟨x, rfl⟩
      | cons y r => simp at hl; omega
  have hx := (subs_ok h.sub).2 x (by simp)
  have := h.low [0] (subs_of (by simp) (fun y hy => by simp at hy; omega)) (ris_one f 0) (by rw [hm]; rfl)
  rw [leV_iff] at this
  rcases this with e | e
  · have := congrArg Prod.snd e
    exact this
  · rcases e with e | ⟨_, e⟩
    · exact absurd e (by simp [lenV])
    · have e : [x] < [0] := e
      rw [List.cons_lt_cons_iff] at e
      rcases e with e | ⟨_, e⟩
      · omega
      · exact absurd e (List.lt_irrefl _)
structure EndOk (n : Nat) : Prop where
  l1 : 1 ≤ n
  l2 : n ≤ 10
  m : mst (dn n) = 1
  t : toldR (dn n) = [rangeI n]
  r : mst (dn n).reverse = (n : Int)
  d1 : (dedI (dn n)).length = n
  d2 : (dedI (dn n).reverse).length = n
theorem end_ok {n : Nat} (h : 1 ≤ n) (h2 : n ≤ 10) : EndOk n := by
  obtain ⟨k, rfl⟩ : ∃ k, n = k + 1 := ⟨n - 1, by omega⟩
  obtain ⟨a, b, c, d, e⟩ := dn_facts ⟨k, by omega⟩
  exact ⟨h, h2, a, b, c, d, e⟩
theorem st_down {n : Nat} (E : EndOk n) : m_stays [.tuple (iL (dn n))] = .ok (.sh (rowT [0])) := by
  obtain ⟨a, h, e⟩ := stays_eq (dn_file E.l1 E.l2)
  rw [who_first h (by rw [dn_len]; exact E.l1) E.m] at e
  exact e
theorem st_up {n : Nat} (E : EndOk n) : m_stays [.tuple (iL (dn n).reverse)] = .ok (.sh (rowT (rangeI n))) := by
  obtain ⟨a, h, e⟩ := stays_eq (dn_rev E.l1 E.l2)
  have hl := h.len
  have hs := h.sub
  have hn : (dn n).reverse.length = n := by rw [List.length_reverse, dn_len]
  rw [E.r] at hl
  rw [hn] at hs
  rw [subs_full hs (by omega)] at e
  exact e
theorem few_down {n : Nat} (E : EndOk n) : m_fewest_moves [.tuple (iL (dn n))] = .ok (.sh (.int ((n : Int) - 1))) := by
  rw [fewest_eq (dn_file E.l1 E.l2), E.d1, E.m, dn_len, if_pos rfl]
theorem few_up {n : Nat} (E : EndOk n) : m_fewest_moves [.tuple (iL (dn n).reverse)] = .ok (.sh (.int 0)) := by
  have hn : (dn n).reverse.length = n := by rw [List.length_reverse, dn_len]
  rw [fewest_eq (dn_rev E.l1 E.l2), E.d2, E.r, hn, if_pos rfl, Int.sub_self]
theorem pap_down {n : Nat} (E : EndOk n) : m_rows_paper [.tuple (iL (dn n))] = .ok (.sh (rowsD [rangeI n])) := by
  rw [rows_eq (dn_file E.l1 E.l2), E.t]
theorem pap_up {n : Nat} (E : EndOk n) : ∃ T : List (List Int), (T.length : Int) = n ∧ m_rows_paper [.tuple (iL (dn n).reverse)] = .ok (.sh (rowsD T)) := by
  have F := dn_rev E.l1 E.l2
  exact ⟨_, by rw [told_len F, E.r], rows_eq F⟩
def endD (n : Nat) : D := .tuple [rowT [0], rowsD [rangeI n], rowT (rangeI n), .int n, .int ((n : Int) - 1), .int 0]
theorem pl_end {n : Nat} (h : n ≤ 10) : Pl 5 (endD n) := by
  unfold endD
  refine .tup (fun d hd => ?_) (by simp)
  have hr : (rangeI n).length ≤ 1000 := by simp [rangeI]; omega
  simp only [List.mem_cons, List.not_mem_nil, or_false] at hd
  rcases hd with rfl | rfl | rfl | rfl | rfl | rfl
  · exact pl_row (by simp)
  · refine .tup (fun d hd => ?_) (by simp)
    simp at hd; subst hd
    exact pl_row hr
  · exact pl_row hr
  · exact .int _
  · exact .int _
  · exact .int _
section
variable {f : List Int} {c : Cup} {n : Nat} {v0 v1 v2 v3 v4 v5 v6 v7 v8 v9 v10 v11 v12 v13 v14 v15 v16 v17 v18 : Option MV}
theorem s22_ok (c : Cup) : ∃ (n : Nat) (c' : Cup), (1 ≤ n ∧ n ≤ 10) ∧ b_law_s22 (LE v0 (some (.ow true (.lst (cupD c)))) v2 v3 v4 v5 v6 v7 v8 v9 v10 v11 v12 v13 v14 v15 v16 v17 v18) = .ok (.nx (LE v0 (some (.ow true (.lst (cupD c')))) v2 v3 (some (.sh (.int (n : Int)))) v5 v6 v7 v8 v9 v10 v11 v12 v13 v14 v15 v16 v17 v18)) := by
  obtain ⟨r, c', h, r0, r1⟩ := roll c 10 (by omega) (by omega)
  refine ⟨(1 + r).toNat, c', by omega, ?_⟩
  have e : (((1 + r).toNat : Nat) : Int) = 1 + r := by omega
  rw [e]
  unfold LE
  simp [b_law_s22, h]
theorem s23_ok (h : n ≤ 10) : b_law_s23 (LE v0 v1 v2 v3 (some (.sh (.int (n : Int)))) v5 v6 v7 v8 v9 v10 v11 v12 v13 v14 v15 v16 v17 v18) = .ok (.nx (LE v0 v1 v2 v3 (some (.sh (.int (n : Int)))) v5 v6 v7 v8 v9 v10 v11 v12 v13 v14 (some (.sh (.tuple (iL (dn n))))) v16 v17 v18)) := by
  have rg : rgOk 3 ((n : Int) + 3) = true := decide_eq_true ⟨by omega, by omega⟩
  have e : ((n : Int) + 3 - 3).toNat = n := by omega
  unfold LE dn
  simp [b_law_s23, rg, e, iL]
theorem s24_ok (E : EndOk n) : b_law_s24 (LE v0 v1 v2 v3 v4 v5 v6 v7 v8 v9 v10 v11 v12 v13 v14 (some (.sh (.tuple (iL (dn n))))) v16 v17 v18) = .ok (.nx (LE v0 v1 v2 v3 v4 v5 v6 v7 v8 (some (.sh (endD n))) v10 v11 v12 v13 v14 (some (.sh (.tuple (iL (dn n))))) v16 v17 v18)) := by
  obtain ⟨T, hT, e4⟩ := pap_up E
  have e1 := st_down E
  have e2 := pap_down E
  have e3 := st_up E
  have e5 := few_down E
  have e6 := few_up E
  have e7 : lenD [rowsD T] = .ok (.sh (.int n)) := by rw [← hT]; simp [rowsD]
  have e8 : revD (.tuple (iL (dn n))) = .ok (.sh (.tuple (iL (dn n).reverse))) := by
    rw [iL, iL, List.map_reverse]
    rfl
  unfold LE endD
  generalize iL (dn n) = A at *
  generalize iL (dn n).reverse = B at *
  simp [b_law_s24, e1, e2, e3, e4, e5, e6, e7, e8]
theorem s25_ok (E : EndOk n) : RtP (b_law_s25 (LE v0 v1 v2 v3 (some (.sh (.int (n : Int)))) v5 v6 v7 v8 (some (.sh (endD n))) v10 v11 v12 v13 v14 v15 v16 v17 v18)) (.sh (.bool true)) := by
  have h2 := E.l2
  have rg : rgOk 0 (n : Int) = true := decide_eq_true ⟨by omega, by omega⟩
  have s := same 5 _ (pl_end E.l2)
  have e : endD n = .tuple [.tuple [.int 0], .tuple [.tuple (iL (rangeI n))], .tuple (iL (rangeI n)), .int n, .int ((n : Int) - 1), .int 0] := rfl
  unfold LE
  simp [b_law_s25, rg, rng_range, ← e, s]
end
def EJ (e : PI.Env) : Prop := ∃ (c : Cup) (v2 v3 v4 v5 v6 v7 v8 v9 v10 v11 v12 v13 v14 v15 v16 v17 v18 : Option MV), e = LE none (some (.ow true (.lst (cupD c)))) v2 v3 v4 v5 v6 v7 v8 v9 v10 v11 v12 v13 v14 v15 v16 v17 v18
theorem L4_ok {c : Cup} {v2 v3 v4 v5 v6 v7 v8 v9 v10 v11 v12 v13 v14 v15 v16 v17 v18 : Option MV} : NxP (b_law_L4 (LE none (some (.ow true (.lst (cupD c)))) v2 v3 v4 v5 v6 v7 v8 v9 v10 v11 v12 v13 v14 v15 v16 v17 v18)) EJ := by
  obtain ⟨f, c1, ⟨F, h8⟩, e1⟩ := s1_ok (v0 := none) (v2 := v2) (v3 := v3) (v4 := v4) (v5 := v5) (v6 := v6) (v7 := v7) (v8 := v8) (v9 := v9) (v10 := v10) (v11 := v11) (v12 := v12) (v13 := v13) (v14 := v14) (v15 := v15) (v16 := v16) (v17 := v17) (v18 := v18) c
  rw [b_law_L4]
  refine NxP.seq (.one e1 ?_)
  refine NxP.seq (.one (s2_ok F) ?_)
  refine NxP.seq (.one (s3_ok F) ?_)
  refine NxP.seq (.one (s4_ok F) ?_)
  refine NxP.seq (.one (s5_ok F) ?_)
  obtain ⟨c2, w8, w16, e7⟩ := s7_ok (v0 := none) (v2 := v2) (v4 := (some (.sh (.int (f.length : Int))))) (v6 := (some (.ow true (.lst ((goodL f).map valD))))) (v7 := (some (.sh (.int (mst f))))) (v8 := (shOnly (some v8))) (v9 := v9) (v10 := v10) (v11 := v11) (v12 := v12) (v13 := v13) (v14 := v14) (v15 := v15) (v16 := v16) (v17 := v17) (v18 := v18) F c1
  refine NxP.seq (.one e7 ?_)
  refine NxP.seq (.one (st_ok F) ?_)
  refine NxP.seq (.one (s8_ok F) ?_)
  obtain ⟨a, c3, ha, e9⟩ := s9_ok (v0 := none) (v2 := v2) (v3 := (some (.sh (.tuple (iL f))))) (v4 := (some (.sh (.int (f.length : Int))))) (v5 := (some (.sh (.list ((subs f.length).map rowT))))) (v6 := (some (.ow true (.lst ((goodL f).map valD))))) (v7 := (some (.sh (.int (mst f))))) (v8 := w8) (v10 := v10) (v11 := v11) (v12 := v12) (v13 := v13) (v14 := v14) (v15 := v15) (v16 := w16) (v17 := v17) (v18 := v18) F c2
  refine NxP.seq (.one e9 ?_)
  refine NxP.seq (.one (s10_ok F) ?_)
  refine NxP.seq (.one (s11_ok F ha) ?_)
  have t := tok F
  refine NxP.seq (.one (s13_ok F (by simp [V1, V2])) ?_)
  refine NxP.seq ((s16_ok F h8 (((V1_ok t.len t.row).app (V2_ok t.len t.row a F.l2)).app (V3_ok t.len t.row))).mono ?_)
  rintro _ ⟨w12, w13, rfl⟩
  have hne : toldR f ≠ [] := fun z => by rw [z] at ha; simp at ha
  have ht := (List.dropLast_concat_getLast hne).symm
  have e17 := s17_ok (n := f.length) (T := (toldR f).dropLast) (r := (toldR f).getLast hne) (v0 := none) (v1 := (some (.ow true (.lst (cupD c3))))) (v2 := v2) (v3 := (some (.sh (.tuple (iL f))))) (v5 := (some (.sh (.list ((subs f.length).map rowT))))) (v6 := (some (.ow true (.lst ((goodL f).map valD))))) (v7 := (some (.sh (.int (mst f))))) (v8 := w8) (v10 := (some (.sh (.int (a : Int))))) (v11 := (some (.sh (.list ((V1 (toldR f) ++ V2 (toldR f) a f.length ++ V3 (toldR f)).map rowsD))))) (v12 := w12) (v13 := w13) (v14 := v14) (v15 := v15) (v16 := w16) (v17 := (shOnly (some v17))) (v18 := v18) (by have := t.len; simp; omega)
  rw [← ht] at e17
  refine NxP.seq (.one e17 ?_)
  refine NxP.seq (.one (s18_ok F (O1_bad F)) ?_)
  refine NxP.seq (.one s19_ok ?_)
  refine NxP.one (s20_ok F) ?_
  exact ⟨c3, _, _, _, _, _, _, _, _, _, _, _, _, _, _, _, _, _, rfl⟩
theorem law_true : ∀ x y : Int, okCup x y → ∃ env', b_law (none :: some (.ow true (.lst [.int x, .int y])) :: List.replicate 17 none) = .ok (.rt (.sh (.bool true)) env') := by
  intro x y hc
  suffices h : RtP (b_law (LE none (some (.ow true (.lst (cupD ⟨x, y, hc⟩)))) none none none none none none none none none none none none none none none none none)) (.sh (.bool true)) from h
  rw [b_law]
  refine RtP.seq ?_
  have hq : ∀ e, b_law_s21 e = forL (gName 2) b_law_L4 (rng 0 4) e := fun e => by simp [b_law_s21]
  rw [hq]
  refine (forL_inv (I := EJ) _ ?_ _ ⟨_, _, _, _, _, _, _, _, _, _, _, _, _, _, _, _, _, _, rfl⟩).mono ?_
  · rintro z _ _ ⟨c, v2, v3, v4, v5, v6, v7, v8, v9, v10, v11, v12, v13, v14, v15, v16, v17, v18, rfl⟩
    exact ⟨_, rfl, L4_ok⟩
  rintro _ ⟨c, v2, v3, v4, v5, v6, v7, v8, v9, v10, v11, v12, v13, v14, v15, v16, v17, v18, rfl⟩
  obtain ⟨n, c1, ⟨n1, n2⟩, e22⟩ := s22_ok (v0 := none) (v2 := v2) (v3 := v3) (v4 := v4) (v5 := v5) (v6 := v6) (v7 := v7) (v8 := v8) (v9 := v9) (v10 := v10) (v11 := v11) (v12 := v12) (v13 := v13) (v14 := v14) (v15 := v15) (v16 := v16) (v17 := v17) (v18 := v18) c
  have E := end_ok n1 n2
  refine RtP.seq (.one e22 ?_)
  refine RtP.seq (.one (s23_ok n2) ?_)
  refine RtP.seq (.one (s24_ok E) ?_)
  exact s25_ok E
end Mir
set_option autoImplicit true
set_option Elab.async false
set_option maxRecDepth 100000
open PySem PySem.W PyProof.Rows
set_option maxHeartbeats 0 in
theorem PySem.Challenge.cw_rehearsals_k82_whole_who_stays_and_paper_holds : PySem.Challenge.rw_rehearsals_k82_whole_who_stays_and_paper.Holds := by
  w_on; o_law; k_head; (case hw => w_witness2)
  k_fill
  refine PI.walk_tabs (l := PySem.Challenge.rw_rehearsals_k82_whole_who_stays_and_paper) (n := 63) (k := 7) (x := "script") rfl (by decide) rfl ⟨rfl, by decide, by decide⟩ (fun w h Y => by first | exact PySem.W.kIn_of Y | exact PySem.W.km_in_of Y) ?F
  case F =>
    intro w mg fa h Y KX G hmg TB
    refine' PI.lawAt1 (q := Mir.q_subsets_of) (x := "subsets_of") TB KX G ?xr ?xa ?xl ?xd ?xc ?xk ?xv ?xn ?xh (Mir.all_mk (tabI := ⟨[(?PT, Mir.q_subsets_of)]⟩) (c_subsets_of := ?cT) (P_subsets_of := ?PT) Mir.cup_true Mir.law_true KX G hmg rfl ?a0 ?l0 ?c0 ?k0 ?a1 ?l1 ?c1 ?k1 ?a2 ?l2 ?c2 ?k2 ?a3 ?l3 ?c3 ?k3 ?a4 ?l4 ?c4 ?k4 ?a5 ?l5 ?c5 ?k5 ?a6 ?l6 ?c6 ?k6 ?a7 ?l7 ?c7 ?k7 ?a8 ?l8 ?c8 ?k8 ?a9 ?l9 ?c9 ?k9 ?a10 ?l10 ?c10 ?k10 ?a11 ?l11 ?c11 ?k11 ?a12 ?l12 ?c12 ?k12 ?a13 ?l13 ?c13 ?k13 ?a14 ?l14 ?c14 ?k14 ?a15 ?l15 ?c15 ?k15 ?a16 ?l16 ?c16 ?k16 ?a17 ?l17 ?c17 ?k17 ?a18 ?l18 ?c18 ?k18 ?a19 ?l19 ?c19 ?k19 ?a20 ?l20 ?c20 ?k20 ?a21 ?l21 ?c21 ?k21 ?a22 ?l22 ?c22 ?k22 ?a23 ?l23 ?c23 ?k23 ?a24 ?l24 ?c24 ?k24 ?a25 ?l25 ?c25 ?k25 ?a26 ?l26 ?c26 ?k26 ?z_abs ?z_all ?z_bool ?z_enumerate ?z_int ?z_isinstance ?z_len ?z_list ?z_max ?z_range ?z_set ?z_sorted ?z_str ?z_tuple ?z_zip ?q_HEIGHT ?q_PEOPLE)
    (case xa => k_is); (case xl => k_is); (case xd => exact rfl); (case xc => exact rfl); (case xk => k_is); (case xv => exact rfl); (case xr => kernel_rfl); (case xn => kernel_rfl); (case xh => kernel_rfl)
    (case a0 => k_is); (case l0 => k_is); (case c0 => k_is); (case k0 => k_is); (case a1 => k_is); (case l1 => k_is); (case c1 => k_is); (case k1 => k_is); (case a2 => k_is); (case l2 => k_is); (case c2 => k_is); (case k2 => k_is); (case a3 => k_is); (case l3 => k_is); (case c3 => k_is); (case k3 => k_is); (case a4 => k_is); (case l4 => k_is); (case c4 => k_is); (case k4 => k_is); (case a5 => k_is); (case l5 => k_is); (case c5 => k_is); (case k5 => k_is); (case a6 => k_is); (case l6 => k_is); (case c6 => k_is); (case k6 => k_is); (case a7 => k_is); (case l7 => k_is); (case c7 => k_is); (case k7 => k_is); (case a8 => k_is); (case l8 => k_is); (case c8 => k_is); (case k8 => k_is); (case a9 => k_is); (case l9 => k_is); (case c9 => k_is); (case k9 => k_is); (case a10 => k_is); (case l10 => k_is); (case c10 => k_is); (case k10 => k_is); (case a11 => k_is); (case l11 => k_is); (case c11 => k_is); (case k11 => k_is); (case a12 => k_is); (case l12 => k_is); (case c12 => k_is); (case k12 => k_is); (case a13 => k_is); (case l13 => k_is); (case c13 => k_is); (case k13 => k_is); (case a14 => k_is); (case l14 => k_is); (case c14 => k_is); (case k14 => k_is); (case a15 => k_is); (case l15 => k_is); (case c15 => k_is); (case k15 => k_is); (case a16 => k_is); (case l16 => k_is); (case c16 => k_is); (case k16 => k_is); (case a17 => k_is); (case l17 => k_is); (case c17 => k_is); (case k17 => k_is); (case a18 => k_is); (case l18 => k_is); (case c18 => k_is); (case k18 => k_is); (case a19 => k_is); (case l19 => k_is); (case c19 => k_is); (case k19 => k_is); (case a20 => k_is); (case l20 => k_is); (case c20 => k_is); (case k20 => k_is); (case a21 => k_is); (case l21 => k_is); (case c21 => k_is); (case k21 => k_is); (case a22 => k_is); (case l22 => k_is); (case c22 => k_is); (case k22 => k_is); (case a23 => k_is); (case l23 => k_is); (case c23 => k_is); (case k23 => k_is); (case a24 => k_is); (case l24 => k_is); (case c24 => k_is); (case k24 => k_is); (case a25 => k_is); (case l25 => k_is); (case c25 => k_is); (case k25 => k_is); (case a26 => k_is); (case l26 => k_is); (case c26 => k_is); (case k26 => k_is); (case z_abs => k_is); (case z_all => k_is); (case z_bool => k_is); (case z_enumerate => k_is); (case z_int => k_is); (case z_isinstance => k_is); (case z_len => k_is); (case z_list => k_is); (case z_max => k_is); (case z_range => k_is); (case z_set => k_is); (case z_sorted => k_is); (case z_str => k_is); (case z_tuple => k_is); (case z_zip => k_is); (case q_HEIGHT => k_is); (case q_PEOPLE => k_is)
